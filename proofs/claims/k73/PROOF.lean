import PyProof.Rows.All
import HandS.ForMost
import HandS.Deep
import KE.LtData
import HandS.Flow
import HandS.TupAny
import HandS.TupLen
import HandS.Wide
import HandS.IsInst
import HandS.Walk
import HandS.Zip
import HandS.Rev
import KE.GoesEnum
import HandS.NoneIn
import HandS.Style
import KE.DataMinMax
import KE.SortData
import HandS.HeadHook2
import HandS.HeadEnd
import HandS.WideBits
import HandS.Conv
import HandS.SetFor
import HandS.Strs
import KE.GoesZip
import KE.GoesMore
import Wide.All
import OpenK.AllK
import Wide.FinOn
import KE.KStateDown
import HandS.Head0
import HandS.Head1
import HandS.Head2
import HandS.HeadHook1
import PySem.Challenge.RW_changeforall_k73_whole_ranks_of_tills
section
set_option Elab.async false
set_option linter.all false
/-! RxCore: plain data, expressions and statements of the small Python that the program uses, and what they yield. -/
namespace Rx

inductive D where
  | non | bl (b : Bool) | int (i : Int) | tup (xs : List D) | lst (xs : List D) | dic (t : Bool) (kvs : List (D × D)) | rng (lo hi : Int)
  /-- the script -/
  | scr (ns : List Int)

instance : Inhabited D := ⟨.non⟩

/-- the longest list -/
abbrev line : Nat := 16777216

inductive BO where | add | sub | mul | fdiv | mod | pow
inductive CO where | lt | le | gt | ge | eq | ne | is | isnt | isin | notin
inductive B1 where | len | sum | min | max | all | any | tuple | list | sorted | sset | int | isInt | isBool | isTup | isStr | bitlen | rev | rng
inductive B2 where | max | min | get
inductive IK where | seq | r1 | r2 | r3 | enum | zip2 | zip3 | rev | keys

inductive T where | name (i : Nat) | tup (ts : List T)

mutual
inductive E where
  | var (i : Nat) | int (n : Int) | bl (b : Bool) | non
  | bin (o : BO) (a b : E) | neg (a : E)
  | not (a : E) | and (a b : E) | or (a b : E)
  | cmp (o : CO) (a b : E) | chn (o p : CO) (a b c : E)
  | ife (c : C) (a b : E)
  | tup (es : List E) | lst (es : List E) | dic0 (t : Bool) | dic1 (t : Bool) (k v : E)
  | sub (a i : E) | slo (a i : E) | shi (a i : E) | stp (a i : E)
  | b1 (f : B1) (a : E) | b2 (f : B2) (a b : E) | get2 (a b c : E)
  | ofw (l : Bool) (k : IK) (es : List E)
  | call (f : Nat) (es : List E) | callB (f : Nat) (es : List E)
  | minK (f : Nat) (a : E) | sortLen (a : E)
  | comp (e : E) (t : T) (k : IK) (es : List E) (ifs : List C) (own : List Nat)
  | comp2 (e : E) (t : T) (k : IK) (es : List E) (ifs : List C) (t2 : T) (k2 : IK) (es2 : List E) (ifs2 : List C) (own : List Nat) (own2 : List Nat)
  | dcomp (tk : Bool) (e v : E) (t : T) (k : IK) (es : List E) (ifs : List C) (own : List Nat)
/-- a test -/
inductive C where
  | val (e : E) | not (a : C) | and (a b : C) | or (a b : C)
end

inductive S where
  | asg (i : Nat) (e : E) | asgO (i : Nat) (e : E) | move (i j : Nat) | frz (i : Nat) | kill (is : List Nat)
  | asgT (t : T) (e : E) | asgP (ts : List (Nat × Bool)) (es : List E)
  | aug (i : Nat) (o : BO) (e : E)
  | sset (i : Nat) (k e : E) | saug (i : Nat) (k : E) (o : BO) (e : E)
  | app (i : Nat) (e : E) | ext (i : Nat) (e : E)
  | ret (e : E)
  | ifs (c : C) (a b : List S)
  | whl (c : C) (b : List S) (kl : List Nat)
  | for_ (t : T) (k : IK) (es : List E) (b : List S) (kl : List Nat)
  | brk
  | callIO (f : Nat) (i : Nat) (es : List E)

/-! ### data -/
mutual
/-- equal, as Python says (a truth value is 0 or 1) -/
def D.eqb : D → D → Bool
  | .non, .non => true
  | .bl a, .bl b => a == b
  | .int a, .int b => decide (a = b)
  | .bl a, .int b => decide ((if a then 1 else 0) = b)
  | .int a, .bl b => decide (a = (if b then 1 else 0))
  | .tup xs, .tup ys => D.eqbL xs ys
  | .lst xs, .lst ys => D.eqbL xs ys
  | _, _ => false
def D.eqbL : List D → List D → Bool
  | [], [] => true
  | x :: xs, y :: ys => D.eqb x y && D.eqbL xs ys
  | _, _ => false
end
mutual
/-- may be compared by == -/
def D.plain : D → Bool
  | .non => true | .bl _ => true | .int _ => true
  | .tup xs => D.plainL xs
  | .lst xs => D.plainL xs
  | _ => false
def D.plainL : List D → Bool
  | [] => true
  | x :: xs => D.plain x && D.plainL xs
end
mutual
/-- no lists, no dicts: may be told of what was lent -/
def D.flat : D → Bool
  | .non => true | .bl _ => true | .int _ => true
  | .tup xs => D.flatL xs
  | _ => false
def D.flatL : List D → Bool
  | [] => true
  | x :: xs => D.flat x && D.flatL xs
end
mutual
def D.depth : D → Nat
  | .tup xs => D.depthL xs + 1
  | .lst xs => D.depthL xs + 1
  | _ => 0
def D.depthL : List D → Nat
  | [] => 0
  | x :: xs => max (D.depth x) (D.depthL xs)
end
mutual
/-- of one kind: both ints, or both tuples of as many things of one kind -/
def D.alike : D → D → Bool
  | .int _, .int _ => true
  | .tup xs, .tup ys => D.alikeL xs ys
  | _, _ => false
def D.alikeL : List D → List D → Bool
  | x :: xs, y :: ys => D.alike x y && D.alikeL xs ys
  | _, _ => true
end
mutual
/-- a < b of ints and of tuples -/
def D.ltb : D → D → Bool
  | .int a, .int b => decide (a < b)
  | .tup xs, .tup ys => D.ltbL xs ys
  | _, _ => false
def D.ltbL : List D → List D → Bool
  | [], [] => false
  | [], _ :: _ => true
  | _ :: _, [] => false
  | x :: xs, y :: ys => if D.eqb x y then D.ltbL xs ys else D.ltb x y
end

def D.int? : D → Option Int | .int i => some i | _ => none
def D.bool? : D → Option Bool | .bl b => some b | _ => none
def D.seq? : D → Option (List D) | .tup xs => some xs | .lst xs => some xs | _ => none
def D.ints : List D → Option (List Int)
  | [] => some []
  | x :: xs => match x with | .int i => (D.ints xs).map (i :: ·) | _ => none
def D.bools : List D → Option (List Bool)
  | [] => some []
  | x :: xs => match x with | .bl b => (D.bools xs).map (b :: ·) | _ => none

/-- the place that an index means -/
def ixN (n : Nat) (i : Int) : Option Nat := if 0 ≤ i then (if i < n then some i.toNat else none) else if -(n : Int) ≤ i then some (i + n).toNat else none
def atI (xs : List D) (i : Int) : Option D := (ixN xs.length i).bind fun j => xs[j]?
/-- how far a cut's end reaches -/
def cutN (n : Nat) (i : Int) : Nat := if i < 0 then (i + n).toNat else min i.toNat n

def mulOk (i j : Int) : Bool := decide (i.natAbs < 2 ^ 64) || decide (j.natAbs < 2 ^ 64) || (decide (i.natAbs < 2 ^ 8192) && decide (j.natAbs < 2 ^ 8192))
def divOk (j : Int) : Bool := (decide (j ≠ 0) && decide (j.natAbs < 2 ^ 30)) || (decide (0 < j) && decide (j.natAbs < 2 ^ 8192))
def isKey (t : Bool) : D → Bool
  | .int _ => !t
  | .tup xs => t && (D.ints xs).isSome
  | _ => false

def opB (o : BO) (x y : D) : Option D := match o, x, y with
  | .add, .int i, .int j => some (.int (i + j))
  | .add, .tup xs, .tup ys => if xs.length + ys.length ≤ line then some (.tup (xs ++ ys)) else none
  | .add, .lst xs, .lst ys => if xs.length + ys.length ≤ line then some (.lst (xs ++ ys)) else none
  | .sub, .int i, .int j => some (.int (i - j))
  | .mul, .int i, .int j => if mulOk i j then some (.int (i * j)) else none
  | .mul, .lst xs, .int j => if -(2 ^ 62) < j ∧ j < 2 ^ 62 ∧ xs.length * j.toNat ≤ line then some (.lst (List.replicate j.toNat xs).flatten) else none
  | .fdiv, .int i, .int j => if divOk j then some (.int (i.fdiv j)) else none
  | .mod, .int i, .int j => if j = 0 then none else some (.int (i.fmod j))
  | .pow, .int i, .int j => if 0 ≤ j ∧ j ≤ 100 ∧ i.natAbs < 2 ^ 64 then some (.int (i ^ j.toNat)) else none
  | _, _, _ => none

/-- x op= y, of ints -/
def opA (o : BO) (x y : D) : Option D := match o, x, y with
  | .add, .int i, .int j => some (.int (i + j))
  | .sub, .int i, .int j => some (.int (i - j))
  | .mod, .int i, .int j => if 0 < j then some (.int (i % j)) else none
  | _, _, _ => none

def D.get (kvs : List (D × D)) (k : D) : Option D := (kvs.find? fun kv => D.eqb kv.1 k).map (·.2)
def D.put (kvs : List (D × D)) (k v : D) : List (D × D) :=
  if (kvs.any fun kv => D.eqb kv.1 k) = true then kvs.map (fun kv => if D.eqb kv.1 k = true then (kv.1, v) else kv) else kvs ++ [(k, v)]

def D.isIn (x y : D) : Option Bool := match y with
  | .tup ys => if D.plain x && D.plainL ys && decide (D.depth x < 60) && decide (D.depthL ys < 60) then some (ys.any fun z => D.eqb z x) else none
  | .lst ys => if D.plain x && D.plainL ys && decide (D.depth x < 60) && decide (D.depthL ys < 60) then some (ys.any fun z => D.eqb z x) else none
  | .dic t kvs => if isKey t x then some (D.get kvs x).isSome else none
  | _ => none
def D.isNon : D → Bool | .non => true | _ => false

def opC (o : CO) (x y : D) : Option Bool := match o with
  | .lt => if D.plain x && D.plain y && D.alike x y && decide (D.depth x < 60) then some (D.ltb x y) else none
  | .gt => match x, y with | .int i, .int j => some (decide (j < i)) | _, _ => none
  | .le => match x, y with | .int i, .int j => some (decide (i ≤ j)) | _, _ => none
  | .ge => match x, y with | .int i, .int j => some (decide (j ≤ i)) | _, _ => none
  | .eq => if D.plain x && D.plain y && decide (D.depth x < 60) && decide (D.depth y < 60) then some (D.eqb x y) else none
  | .ne => if D.plain x && D.plain y && decide (D.depth x < 60) && decide (D.depth y < 60) then some (!D.eqb x y) else none
  | .is => match y with | .non => some (D.isNon x) | _ => none
  | .isnt => match y with | .non => some (!D.isNon x) | _ => none
  | .isin => D.isIn x y
  | .notin => (D.isIn x y).map not

def D.truth : D → Option Bool
  | .non => some false
  | .bl b => some b
  | .int i => some (i != 0)
  | .tup xs => some !xs.isEmpty
  | .lst xs => some !xs.isEmpty
  | _ => none

/-- the first least one -/
def leastD (m : D) : List D → D
  | [] => m
  | x :: xs => leastD (if D.ltb x m then x else m) xs
def mostD (m : D) : List D → D
  | [] => m
  | x :: xs => mostD (if D.ltb m x then x else m) xs
/-- all of one kind -/
def alikeAll (xs : List D) : Bool := xs.all fun x => xs.all fun y => D.alike x y
/-- all ints, or tuples with an item at least -/
def sortable (xs : List D) : Bool := (xs.all fun x => match x with | .int _ => true | _ => false) || xs.all fun x => match x with | .tup (_ :: _) => true | _ => false
def sortD (xs : List D) : List D := xs.mergeSort fun a b => !D.ltb b a
def dedup : List Int → List Int
  | [] => []
  | x :: xs => if xs.contains x then dedup xs else x :: dedup xs
/-- the different ints, ascending -/
def setSort (xs : List Int) : List Int := (dedup xs).mergeSort fun a b => decide (a ≤ b)

def bitlen (i : Int) : Nat := if i = 0 then 0 else i.natAbs.log2 + 1

def opU (f : B1) (x : D) : Option D := match f with
  | .len => match x with
    | .tup xs => some (.int xs.length)
    | .lst xs => some (.int xs.length)
    | .scr ns => some (.int ns.length)
    | _ => none
  | .sum => x.seq?.bind fun xs => (D.ints xs).map fun ns => .int ns.sum
  | .min => x.seq?.bind fun xs => match xs with | [] => none | y :: ys => if alikeAll (y :: ys) && D.plainL (y :: ys) && decide (D.depthL (y :: ys) < 60) then some (leastD y ys) else none
  | .max => x.seq?.bind fun xs => (D.ints xs).bind fun ns => match ns with | [] => none | n :: ns => some (.int (ns.foldl (fun m x => if m < x then x else m) n))
  | .all => match x with | .lst xs => (D.bools xs).map fun bs => .bl (bs.all id) | _ => none
  | .any => match x with | .lst xs => (D.bools xs).map fun bs => .bl (bs.any id) | _ => none
  | .tuple => x.seq?.map .tup
  | .list => x.seq?.map .lst
  | .sorted => x.seq?.bind fun xs => if alikeAll xs && sortable xs && D.plainL xs && decide (D.depthL xs < 60) then some (.lst (sortD xs)) else none
  | .sset => x.seq?.bind fun xs => (D.ints xs).bind fun ns => if ns.length < 64 then some (.lst ((setSort ns).map .int)) else none
  | .int => match x with | .int i => some (.int i) | .bl b => some (.int (if b then 1 else 0)) | _ => none
  | .isInt => match x with | .int _ => some (.bl true) | .bl _ => some (.bl true) | .rng _ _ => none | .scr _ => none | .dic _ _ => none | _ => some (.bl false)
  | .isBool => match x with | .bl _ => some (.bl true) | .rng _ _ => none | .scr _ => none | .dic _ _ => none | _ => some (.bl false)
  | .isTup => match x with | .tup _ => some (.bl true) | .rng _ _ => none | .scr _ => none | .dic _ _ => none | _ => some (.bl false)
  | .isStr => match x with | .rng _ _ => none | .scr _ => none | .dic _ _ => none | _ => some (.bl false)
  | .bitlen => match x with | .int i => if 0 ≤ i then some (.int (bitlen i)) else none | _ => none
  | .rng => match x with | .int n => some (.rng 0 n) | _ => none
  | .rev => match x with | .tup xs => some (.tup xs.reverse) | .lst xs => some (.lst xs.reverse) | _ => none

def opU2 (f : B2) (x y : D) : Option D := match f with
  | .max => match x, y with | .int i, .int j => some (.int (if j > i then j else i)) | _, _ => none
  | .min => match x, y with | .int i, .int j => some (.int (if j < i then j else i)) | _, _ => none
  | .get => match x with | .dic t kvs => if isKey t y then some ((D.get kvs y).getD .non) else none | _ => none

def opGet2 (x k v : D) : Option D := match x with | .dic t kvs => if isKey t k then some ((D.get kvs k).getD v) else none | _ => none

def opSub (x i : D) : Option D := match x, i with
  | .tup xs, .int i => atI xs i
  | .lst xs, .int i => atI xs i
  | .scr ns, .int i => atI (ns.map .int) i
  | .dic t kvs, k => if isKey t k then D.get kvs k else none
  | _, _ => none
def opLo (x i : D) : Option D := match x, i with
  | .tup xs, .int i => some (.tup (xs.drop (cutN xs.length i)))
  | .lst xs, .int i => some (.lst (xs.drop (cutN xs.length i)))
  | _, _ => none
def opHi (x i : D) : Option D := match x, i with
  | .tup xs, .int i => some (.tup (xs.take (cutN xs.length i)))
  | .lst xs, .int i => some (.lst (xs.take (cutN xs.length i)))
  | _, _ => none
/-- every g-th one -/
def everyN (g : Nat) : Nat → List D → List D
  | _, [] => []
  | 0, x :: xs => x :: everyN g (g - 1) xs
  | k + 1, _ :: xs => everyN g k xs
def opStp (x i : D) : Option D := match x, i with
  | .lst xs, .int i => if 0 < i ∧ i < 2 ^ 62 then some (.lst (everyN i.toNat 0 xs)) else none
  | _, _ => none

def rgD (lo : Int) (n : Nat) : List D := (List.range n).map fun (k : Nat) => .int (lo + k)
/-- how many turns range(lo, hi, c) has -/
def rsize (lo hi c : Int) : Nat := if 0 < c then (hi - lo + c - 1).toNat / c.toNat else (lo - hi - c - 1).toNat / (-c).toNat
/-- what is walked -/
def walk (k : IK) (vs : List D) : Option (List D) := match k, vs with
  | .seq, [.tup xs] => some xs
  | .seq, [.lst xs] => some xs
  | .seq, [.rng lo hi] => if -(2 ^ 62) ≤ lo ∧ lo < 2 ^ 62 ∧ -(2 ^ 62) ≤ hi ∧ hi < 2 ^ 62 then some (rgD lo (hi - lo).toNat) else none
  | .r1, [.int n] => if -(2 ^ 62) ≤ n ∧ n < 2 ^ 62 then some (rgD 0 n.toNat) else none
  | .r2, [.int lo, .int hi] => if -(2 ^ 62) ≤ lo ∧ lo < 2 ^ 62 ∧ -(2 ^ 62) ≤ hi ∧ hi < 2 ^ 62 then some (rgD lo (hi - lo).toNat) else none
  | .r3, [.int lo, .int hi, .int c] => if -(2 ^ 61) ≤ lo ∧ lo < 2 ^ 61 ∧ -(2 ^ 61) ≤ hi ∧ hi < 2 ^ 61 ∧ c ≠ 0 ∧ c.natAbs < 2 ^ 30 then some ((List.range (rsize lo hi c)).map fun (k : Nat) => .int (lo + k * c)) else none
  | .enum, [.tup xs] => some ((List.range xs.length).map fun (k : Nat) => .tup [.int k, xs.getD k .non])
  | .enum, [.lst xs] => some ((List.range xs.length).map fun (k : Nat) => .tup [.int k, xs.getD k .non])
  | .zip2, [x, y] => x.seq?.bind fun xs => y.seq?.map fun ys => (xs.zip ys).map fun p => .tup [p.1, p.2]
  | .zip3, [x, y, z] => x.seq?.bind fun xs => y.seq?.bind fun ys => z.seq?.map fun zs => (xs.zip (ys.zip zs)).map fun p => .tup [p.1, p.2.1, p.2.2]
  | .rev, [x] => x.seq?.map List.reverse
  | .keys, [.dic _ kvs] => some (kvs.map (·.1))
  | _, _ => none

/-- what list(..) and tuple(..) make of an iterator -/
def walkO (k : IK) (vs : List D) : Option (List D) := match k, vs with
  | .rev, [.lst xs] => some xs.reverse
  | .rev, _ => none
  | .seq, _ => none
  | .enum, _ => none
  | .keys, _ => none
  | k, vs => walk k vs
/-! ### names -/
inductive Cell where | unk | val (d : D) | own (d : D)
abbrev Env := List Cell
def Env.val (env : Env) (i : Nat) : Option D := match env[i]? with | some (.val d) => some d | _ => none
def Env.bor (env : Env) (i : Nat) : Option D := match env[i]? with | some (.val d) => some d | some (.own d) => some d | _ => none
def Env.ow (env : Env) (i : Nat) : Option D := match env[i]? with | some (.own d) => some d | _ => none
def Env.kill (env : Env) : List Nat → Env
  | [] => env
  | i :: is => Env.kill (env.set i .unk) is
mutual
def bind : T → D → Env → Option Env
  | .name i, d, env => some (env.set i (.val d))
  | .tup ts, d, env => match d with
    | .tup ds => bindL ts ds env
    | .lst ds => bindL ts ds env
    | _ => none
def bindL : List T → List D → Env → Option Env
  | [], [], env => some env
  | t :: ts, d :: ds, env => (bind t d env).bind fun e => bindL ts ds e
  | _, _, _ => none
end
/-- a name that owns its list may be read where the list itself isn't kept -/
def bo (env : Env) (e : E) (r : Option D) : Option D := match e with | .var i => env.bor i | _ => r

/-! ### comprehensions over what is walked -/
def compL (f : D → Option (Option D)) : List D → Option (List D)
  | [] => some []
  | x :: xs => (f x).bind fun r => (compL f xs).map fun ys => match r with | some y => y :: ys | none => ys
def compLL (f : D → Option (List D)) : List D → Option (List D)
  | [] => some []
  | x :: xs => (f x).bind fun r => (compLL f xs).map fun ys => r ++ ys
def compD (f : D → Option (Option (D × D))) : List D → List (D × D) → Option (List (D × D))
  | [], acc => some acc
  | x :: xs, acc => (f x).bind fun r => match r with | some (k, v) => compD f xs (D.put acc k v) | none => compD f xs acc
/-- the tests of a comprehension -/
def leastK (f : D → Option D) (m k : D) : List D → Option D
  | [] => some m
  | x :: xs => (f x).bind fun j => if D.alike j k then (if D.ltb j k then leastK f x j xs else leastK f m k xs) else none

def fits (xs : List D) : Option D := if xs.length ≤ line then some (.lst xs) else none

section
variable (G : Nat → List D → Option D)
mutual
def ev (env : Env) : E → Option D
  | .var i => env.val i
  | .int n => some (.int n)
  | .bl b => some (.bl b)
  | .non => some .non
  | .bin o a b => (bo env a (ev env a)).bind fun x => (bo env b (ev env b)).bind fun y => opB o x y
  | .neg a => (ev env a).bind fun x => match x with | .int i => some (.int (-i)) | _ => none
  | .not a => (bo env a (ev env a)).bind fun x => (D.truth x).map fun c => .bl (!c)
  | .and a b => (ev env a).bind fun x => match x with | .bl c => if c then ev env b else some (.bl false) | _ => none
  | .or a b => (ev env a).bind fun x => match x with | .bl c => if c then some (.bl true) else ev env b | _ => none
  | .cmp o a b => (bo env a (ev env a)).bind fun x => (bo env b (ev env b)).bind fun y => (opC o x y).map .bl
  | .chn o p a b c => (ev env a).bind fun x => (ev env b).bind fun y => (opC o x y).bind fun r => if r then (ev env c).bind fun z => (opC p y z).map .bl else some (.bl false)
  | .ife c a b => (ts env c).bind fun r => if r then ev env a else ev env b
  | .tup es => (evL env es).bind fun xs => if xs.length ≤ line then some (.tup xs) else none
  | .lst es => (evL env es).bind fits
  | .dic0 t => some (.dic t [])
  | .dic1 t k v => (ev env k).bind fun x => (ev env v).bind fun y => if isKey t x then some (.dic t [(x, y)]) else none
  | .sub a i => (bo env a (ev env a)).bind fun x => (ev env i).bind fun y => opSub x y
  | .slo a i => (bo env a (ev env a)).bind fun x => (ev env i).bind fun y => opLo x y
  | .shi a i => (bo env a (ev env a)).bind fun x => (ev env i).bind fun y => opHi x y
  | .stp a i => (bo env a (ev env a)).bind fun x => (ev env i).bind fun y => opStp x y
  | .b1 f a => (bo env a (ev env a)).bind fun x => opU f x
  | .b2 f a b => (bo env a (ev env a)).bind fun x => (ev env b).bind fun y => opU2 f x y
  | .get2 a b c => (bo env a (ev env a)).bind fun x => (ev env b).bind fun y => (ev env c).bind fun z => opGet2 x y z
  | .ofw l k es => (evB env es).bind fun vs => (walkO k vs).bind fun xs => if xs.length ≤ line then some (if l then .lst xs else .tup xs) else none
  | .call f es => (evL env es).bind fun xs => G f xs
  | .callB f es => (evB env es).bind fun xs => (G f xs).bind fun d => if D.flat d = true then some d else none
  | .minK f a => (bo env a (ev env a)).bind fun x => match x with
    | .lst (y :: ys) => (G f [y]).bind fun k => leastK (fun z => G f [z]) y k ys
    | _ => none
  | .sortLen a => (ev env a).bind fun x => match x with
    | .lst xs => if xs.all (fun y => match y with | .tup _ => true | _ => false) then some (.lst (xs.mergeSort fun a b => decide ((a.seq?.getD []).length ≤ (b.seq?.getD []).length))) else none
    | _ => none
  | .comp e t k es fs own => (evB env es).bind fun vs => (walk k vs).bind fun xs =>
      (compL (fun x => (bind t x (env.kill own)).bind fun env' => (tsL env' fs).bind fun c => if c then (ev env' e).map some else some none) xs).bind fits
  | .comp2 e t k es fs t2 k2 es2 fs2 own own2 => (evB env es).bind fun vs => (walk k vs).bind fun xs =>
      (compLL (fun x => (bind t x (env.kill own)).bind fun env' => (tsL env' fs).bind fun c => if c then
        (evB env' es2).bind fun ws => (walk k2 ws).bind fun ys =>
          compL (fun y => (bind t2 y (env'.kill own2)).bind fun env2 => (tsL env2 fs2).bind fun c2 => if c2 then (ev env2 e).map some else some none) ys
        else some []) xs).bind fits
  | .dcomp tk e v t k es fs own => (evB env es).bind fun vs => (walk k vs).bind fun xs =>
      (compD (fun x => (bind t x (env.kill own)).bind fun env' => (tsL env' fs).bind fun c => if c then (ev env' e).bind fun a => (ev env' v).bind fun b => if isKey tk a then some (some (a, b)) else none else some none) xs []).map (.dic tk)
def ts (env : Env) : C → Option Bool
  | .not a => (ts env a).map not
  | .and a b => (ts env a).bind fun c => if c then ts env b else some false
  | .or a b => (ts env a).bind fun c => if c then some true else ts env b
  | .val e => (bo env e (ev env e)).bind D.truth
def evL (env : Env) : List E → Option (List D)
  | [] => some []
  | e :: es => (ev env e).bind fun x => (evL env es).map (x :: ·)
def evB (env : Env) : List E → Option (List D)
  | [] => some []
  | e :: es => (bo env e (ev env e)).bind fun x => (evB env es).map (x :: ·)
def tsL (env : Env) : List C → Option Bool
  | [] => some true
  | e :: es => (ts env e).bind fun c => if c then tsL env es else some false
end

inductive Fl where | nx | brk | rt (d : D)

def forL (step : D → Env → Option (Fl × Env)) (kl : List Nat) : List D → Env → Option (Fl × Env)
  | [], env => some (.nx, env.kill kl)
  | x :: xs, env => (step x env).bind fun r => match r.1 with
    | .nx => forL step kl xs (r.2.kill kl)
    | .brk => some (.nx, r.2.kill kl)
    | .rt d => some (.rt d, r.2)
def whlL (test : Env → Option Bool) (step : Env → Option (Fl × Env)) (kl : List Nat) : Nat → Env → Option (Fl × Env)
  | 0, _ => none
  | n + 1, env => (test env).bind fun c => if c then (step env).bind fun r => match r.1 with
    | .nx => whlL test step kl n (r.2.kill kl)
    | .brk => some (.nx, r.2.kill kl)
    | .rt d => some (.rt d, r.2)
    else some (.nx, env.kill kl)
def seqS (r : Option (Fl × Env)) (f : Env → Option (Fl × Env)) : Option (Fl × Env) := r.bind fun r => match r.1 with
  | .nx => f r.2
  | _ => some r
def stores : List (Nat × Bool) → List D → Env → Option Env
  | [], [], env => some env
  | (i, o) :: ts, d :: ds, env => stores ts ds (env.set i (if o then .own d else .val d))
  | _, _, _ => none
/-- as a list or dict just made -/
def isNew : E → Bool
  | .lst _ => true | .dic0 _ => true | .dic1 _ _ _ => true | .comp _ _ _ _ _ _ => true | .comp2 _ _ _ _ _ _ _ _ _ _ _ => true | .dcomp _ _ _ _ _ _ _ _ => true
  | .bin .add a _ => isNew a | .bin .mul a _ => isNew a
  | .b1 .list _ => true | .b1 .sorted _ => true | .ofw true _ _ => true
  | _ => false
def putAt (x k v : D) : Option D := match x, k with
  | .lst xs, .int i => (ixN xs.length i).map fun j => .lst (xs.set j v)
  | .dic t kvs, k => if isKey t k ∧ kvs.length < line then some (.dic t (D.put kvs k v)) else none
  | _, _ => none

variable (GI : Nat → List D → Option D)
mutual
def ex (env : Env) : S → Option (Fl × Env)
  | .asg i e => (ev G env e).map fun d => (.nx, env.set i (.val d))
  | .asgO i e => if isNew e then (ev G env e).map fun d => (.nx, env.set i (.own d)) else none
  | .move i j => (env.ow j).map fun d => (.nx, (env.set j .unk).set i (.own d))
  | .frz i => (env.bor i).map fun d => (.nx, env.set i (.val d))
  | .kill is => some (.nx, env.kill is)
  | .asgT t e => (ev G env e).bind fun d => (bind t d env).map fun env' => (.nx, env')
  | .asgP is es => (evL G env es).bind fun ds => (stores is ds env).map fun env' => (.nx, env')
  | .aug i o e => (env.val i).bind fun x => (ev G env e).bind fun y => (opA o x y).map fun z => (.nx, env.set i (.val z))
  | .sset i k e => (ev G env e).bind fun v => (env.ow i).bind fun x => (ev G env k).bind fun k => (putAt x k v).map fun d => (.nx, env.set i (.own d))
  | .saug i k o e => (env.ow i).bind fun x => (ev G env k).bind fun k => (opSub x k).bind fun y => (ev G env e).bind fun v => (opA o y v).bind fun z => (putAt x k z).map fun d => (.nx, env.set i (.own d))
  | .app i e => (env.ow i).bind fun x => (ev G env e).bind fun v => match x with
    | .lst xs => if xs.length < line then some (.nx, env.set i (.own (.lst (xs ++ [v])))) else none
    | _ => none
  | .ext i e => (env.ow i).bind fun x => (ev G env e).bind fun v => match x, v with
    | .lst xs, .lst ys => if xs.length + ys.length ≤ line then some (.nx, env.set i (.own (.lst (xs ++ ys)))) else none
    | _, _ => none
  | .ret e => (ev G env e).map fun d => (.rt d, env)
  | .ifs c a b => (ts G env c).bind fun r => if r then exs env a else exs env b
  | .whl c b kl => whlL (fun e => ts G e c) (fun e => exs e b) kl 1000000 env
  | .for_ t k es b kl => (evL G env es).bind fun vs => (walk k vs).bind fun xs => forL (fun x e => (bind t x e).bind fun e' => exs e' b) kl xs env
  | .brk => some (.brk, env)
  | .callIO f i es => (env.ow i).bind fun x => (evL G env es).bind fun ds => (GI f (x :: ds)).map fun d => (.nx, env.set i (.own d))
def exs (env : Env) : List S → Option (Fl × Env)
  | [] => some (.nx, env)
  | s :: ss => seqS (ex env s) fun e => exs e ss
end
end

/-- a def: how many parameters, how many names, the first one lent to be changed (io), its body -/
structure Fn where
  ps : Nat
  ns : Nat
  io : Bool
  body : List S
def Fn.start (f : Fn) (ds : List D) : Env := (match f.io, ds with | true, d :: r => .own d :: r.map Cell.val | _, ds => ds.map Cell.val) ++ List.replicate (f.ns - f.ps) .unk
def retD : Option (Fl × Env) → Option D
  | some (.rt d, _) => some d
  | some (.nx, _) => some .non
  | _ => none
def retI : Option (Fl × Env) → Option D
  | some (.nx, .own d :: _) => some d
  | _ => none
section
variable (defs : Nat → Option Fn)
mutual
def run : Nat → Nat → List D → Option D
  | 0, _, _ => none
  | k + 1, f, ds => (defs f).bind fun fn => if fn.io = false ∧ ds.length = fn.ps then retD (exs (run k) (runI k) (fn.start ds) fn.body) else none
def runI : Nat → Nat → List D → Option D
  | 0, _, _ => none
  | k + 1, f, ds => (defs f).bind fun fn => if fn.io = true ∧ ds.length = fn.ps then retI (exs (run k) (runI k) (fn.start ds) fn.body) else none
end
end
end Rx
end

section
set_option Elab.async false
set_option linter.all false
set_option maxRecDepth 100000
/-! RxRep: how plain data lie in the heap; what a name's cell says; heaps that only grow. -/
namespace Rx
open PySem PySem.Spec PyProof.Rows L2
set_option autoImplicit false
abbrev St := L2.St

theorem line_eq : (sizeLine : Nat) = line := by rw [sizeLine_eq]

/-- the key that a number is; that a tuple of numbers is -/
def KeyI (d : D) (k : Key) : Prop := ∃ i, d = .int i ∧ k = Sum.inl i
def KeyT (d : D) (k : List Key) : Prop := ∃ ns : List Int, d = .tup (ns.map .int) ∧ k = ns.map Sum.inl ∧ ns.length ≤ line

mutual
def Rep (K : PySem.W.Frag) (F : Hp) : D → V → Prop
  | .non, v => v = .non
  | .bl b, v => v = .bl b
  | .int i, v => v = .int i
  | .tup ds, v => ∃ a vs, v = .ref a ∧ F a = some (.tup vs) ∧ RepL K F ds vs ∧ ds.length ≤ line
  | .lst ds, v => ∃ a vs, v = .ref a ∧ F a = some (.lst vs) ∧ RepL K F ds vs ∧ ds.length ≤ line
  | .scr ns, v => ∃ a, v = .ref a ∧ SqL K F a (ns.map V.int) ∧ ns.length ≤ line
  | .dic false kvs, v => ∃ a ws, v = .ref a ∧ F a = some (.dK ws) ∧ RepK K F kvs ws
  | .dic true kvs, v => ∃ a ws, v = .ref a ∧ F a = some (.dT ws) ∧ RepT K F kvs ws
  | .rng lo hi, v => ∃ a, v = .ref a ∧ F a = some (.rng lo hi)
def RepL (K : PySem.W.Frag) (F : Hp) : List D → List V → Prop
  | [], vs => vs = []
  | d :: ds, vs => ∃ v r, vs = v :: r ∧ Rep K F d v ∧ RepL K F ds r
def RepK (K : PySem.W.Frag) (F : Hp) : List (D × D) → List (Key × V) → Prop
  | [], ws => ws = []
  | (k, d) :: r, ws => ∃ k' v r', ws = (k', v) :: r' ∧ KeyI k k' ∧ Rep K F d v ∧ RepK K F r r'
def RepT (K : PySem.W.Frag) (F : Hp) : List (D × D) → List (List Key × V) → Prop
  | [], ws => ws = []
  | (k, d) :: r, ws => ∃ k' v r', ws = (k', v) :: r' ∧ KeyT k k' ∧ Rep K F d v ∧ RepT K F r r'
end

def FMono (F F' : Hp) : Prop := ∀ a u, F a = some u → F' a = some u
theorem FMono.refl (F : Hp) : FMono F F := fun _ _ h => h
theorem FMono.trans {F F1 F2 : Hp} (a : FMono F F1) (b : FMono F1 F2) : FMono F F2 := fun c u h => b c u (a c u h)
theorem FMono.sqL {K : PySem.W.Frag} {F F' : Hp} {a : Addr} {vs : List V} (m : FMono F F') (h : SqL K F a vs) : SqL K F' a vs := by
  rcases h with (h | ⟨o, h⟩) | h
  · exact .inl (.inl (m _ _ h))
  · exact .inl (.inr ⟨o, m _ _ h⟩)
  · exact .inr h
section
variable {K : PySem.W.Frag} {F F' : Hp}
mutual
theorem Rep.mono (m : FMono F F') : ∀ (d : D) {v : V}, Rep K F d v → Rep K F' d v
  | .non, _, h => h
  | .bl _, _, h => h
  | .int _, _, h => h
  | .tup ds, _, h => let ⟨a, vs, e, f, r, l⟩ := h; ⟨a, vs, e, m _ _ f, RepL.mono m ds r, l⟩
  | .lst ds, _, h => let ⟨a, vs, e, f, r, l⟩ := h; ⟨a, vs, e, m _ _ f, RepL.mono m ds r, l⟩
  | .scr ns, _, h => let ⟨a, e, f, l⟩ := h; ⟨a, e, m.sqL f, l⟩
  | .dic false kvs, _, h => let ⟨a, ws, e, f, r⟩ := h; ⟨a, ws, e, m _ _ f, RepK.mono m kvs r⟩
  | .dic true kvs, _, h => let ⟨a, ws, e, f, r⟩ := h; ⟨a, ws, e, m _ _ f, RepT.mono m kvs r⟩
  | .rng _ _, _, h => let ⟨a, e, f⟩ := h; ⟨a, e, m _ _ f⟩
theorem RepL.mono (m : FMono F F') : ∀ (ds : List D) {vs : List V}, RepL K F ds vs → RepL K F' ds vs
  | [], _, h => h
  | d :: ds, _, h => let ⟨v, r, e, h1, h2⟩ := h; ⟨v, r, e, Rep.mono m d h1, RepL.mono m ds h2⟩
theorem RepK.mono (m : FMono F F') : ∀ (kvs : List (D × D)) {ws : List (Key × V)}, RepK K F kvs ws → RepK K F' kvs ws
  | [], _, h => h
  | (k, d) :: r, _, h => let ⟨k', v, r', e, hk, h1, h2⟩ := h; ⟨k', v, r', e, hk, Rep.mono m d h1, RepK.mono m r h2⟩
theorem RepT.mono (m : FMono F F') : ∀ (kvs : List (D × D)) {ws : List (List Key × V)}, RepT K F kvs ws → RepT K F' kvs ws
  | [], _, h => h
  | (k, d) :: r, _, h => let ⟨k', v, r', e, hk, h1, h2⟩ := h; ⟨k', v, r', e, hk, Rep.mono m d h1, RepT.mono m r h2⟩
end
end

/-! ### lists of values -/
section
variable {K : PySem.W.Frag} {F F' : Hp}
theorem RepL.length : ∀ {ds : List D} {vs : List V}, RepL K F ds vs → vs.length = ds.length
  | [], _, h => by cases h; rfl
  | d :: ds, _, h => by
    obtain ⟨v, r, rfl, _, h2⟩ := h
    simp [RepL.length h2]
theorem RepL.get : ∀ {ds : List D} {vs : List V} {i : Nat} {d : D}, RepL K F ds vs → ds[i]? = some d → ∃ v, vs[i]? = some v ∧ Rep K F d v
  | d :: ds, _, 0, x, h, e => by
    obtain ⟨v, r, rfl, h1, h2⟩ := h
    simp at e; subst e
    exact ⟨v, rfl, h1⟩
  | d :: ds, _, i + 1, x, h, e => by
    obtain ⟨v, r, rfl, h1, h2⟩ := h
    simp at e
    obtain ⟨w, e1, e2⟩ := RepL.get (i := i) h2 e
    exact ⟨w, by simpa using e1, e2⟩
theorem RepL.get' : ∀ {ds : List D} {vs : List V} {i : Nat} {v : V}, RepL K F ds vs → vs[i]? = some v → ∃ d, ds[i]? = some d ∧ Rep K F d v
  | [], _, i, x, h, e => by cases h; simp at e
  | d :: ds, _, 0, x, h, e => by
    obtain ⟨v, r, rfl, h1, h2⟩ := h
    simp at e; subst e
    exact ⟨d, rfl, h1⟩
  | d :: ds, _, i + 1, x, h, e => by
    obtain ⟨v, r, rfl, h1, h2⟩ := h
    simp at e
    obtain ⟨w, e1, e2⟩ := RepL.get' (i := i) h2 e
    exact ⟨w, by simpa using e1, e2⟩
theorem RepL.append : ∀ {ds es : List D} {vs ws : List V}, RepL K F ds vs → RepL K F es ws → RepL K F (ds ++ es) (vs ++ ws)
  | [], _, _, _, h, g => by cases h; exact g
  | d :: ds, _, _, _, h, g => by
    obtain ⟨v, r, rfl, h1, h2⟩ := h
    exact ⟨v, r ++ _, rfl, h1, RepL.append h2 g⟩
theorem RepL.one {d : D} {v : V} (h : Rep K F d v) : RepL K F [d] [v] := ⟨v, [], rfl, h, rfl⟩
theorem RepL.set : ∀ {ds : List D} {vs : List V} {d : D} {v : V} (i : Nat), RepL K F ds vs → Rep K F d v → RepL K F (ds.set i d) (vs.set i v)
  | [], _, _, _, _, h, _ => by cases h; rfl
  | d :: ds, _, _, _, 0, h, g => by
    obtain ⟨v, r, rfl, h1, h2⟩ := h
    exact ⟨_, r, rfl, g, h2⟩
  | d :: ds, _, _, _, i + 1, h, g => by
    obtain ⟨v, r, rfl, h1, h2⟩ := h
    exact ⟨v, r.set i _, rfl, h1, RepL.set i h2 g⟩
theorem RepL.take : ∀ {ds : List D} {vs : List V} (i : Nat), RepL K F ds vs → RepL K F (ds.take i) (vs.take i)
  | _, _, 0, _ => rfl
  | [], _, _ + 1, h => by cases h; rfl
  | d :: ds, _, i + 1, h => by
    obtain ⟨v, r, rfl, h1, h2⟩ := h
    exact ⟨v, r.take i, rfl, h1, RepL.take i h2⟩
theorem RepL.drop : ∀ {ds : List D} {vs : List V} (i : Nat), RepL K F ds vs → RepL K F (ds.drop i) (vs.drop i)
  | _, _, 0, h => h
  | [], _, _ + 1, h => by cases h; rfl
  | d :: ds, _, i + 1, h => by
    obtain ⟨v, r, rfl, h1, h2⟩ := h
    exact RepL.drop i h2
theorem RepL.reverse : ∀ {ds : List D} {vs : List V}, RepL K F ds vs → RepL K F ds.reverse vs.reverse
  | [], _, h => by cases h; rfl
  | d :: ds, _, h => by
    obtain ⟨v, r, rfl, h1, h2⟩ := h
    rw [List.reverse_cons, List.reverse_cons]
    exact (RepL.reverse h2).append (.one h1)
theorem RepL.rep {ds : List D} {vs : List V} (h : RepL K F ds vs) : ∀ k : Nat, RepL K F (List.replicate k ds).flatten (List.replicate k vs).flatten
  | 0 => rfl
  | k + 1 => by
    simp only [List.replicate_succ, List.flatten_cons]
    exact h.append (RepL.rep h k)
/-- built by place -/
theorem RepL.of_get : ∀ {ds : List D} {vs : List V}, vs.length = ds.length → (∀ (i : Nat) d v, ds[i]? = some d → vs[i]? = some v → Rep K F d v) → RepL K F ds vs
  | [], vs, hl, _ => by cases vs with | nil => rfl | cons => simp at hl
  | d :: ds, vs, hl, h => by
    cases vs with
    | nil => simp at hl
    | cons v r => exact ⟨v, r, rfl, h 0 d v rfl rfl, RepL.of_get (by simpa using hl) fun i x y e1 e2 => h (i + 1) x y (by simpa using e1) (by simpa using e2)⟩
theorem RepL.ints : ∀ {ns : List Int} {vs : List V}, RepL K F (ns.map .int) vs → vs = ns.map V.int
  | [], _, h => h
  | n :: ns, _, h => by
    obtain ⟨v, r, rfl, h1, h2⟩ := h
    rw [RepL.ints h2]; cases h1; rfl
theorem RepL.ofInts : ∀ (ns : List Int), RepL K F (ns.map .int) (ns.map V.int)
  | [] => rfl
  | n :: ns => ⟨_, _, rfl, rfl, RepL.ofInts ns⟩
theorem RepL.bls : ∀ {ns : List Bool} {vs : List V}, RepL K F (ns.map .bl) vs → vs = ns.map V.bl
  | [], _, h => h
  | n :: ns, _, h => by
    obtain ⟨v, r, rfl, h1, h2⟩ := h
    rw [RepL.bls h2]; cases h1; rfl
theorem ints_eq : ∀ {ds : List D} {ns : List Int}, D.ints ds = some ns → ds = ns.map .int
  | [], ns, h => by cases h; rfl
  | d :: ds, ns, h => by
    cases d <;> simp only [D.ints] at h <;> try cases h
    obtain ⟨ms, e, rfl⟩ := Option.map_eq_some_iff.mp h
    rw [ints_eq e]; rfl
theorem ints_map : ∀ (ns : List Int), D.ints (ns.map .int) = some ns
  | [] => rfl
  | n :: ns => by simp [D.ints, ints_map ns]
theorem bools_eq : ∀ {ds : List D} {ns : List Bool}, D.bools ds = some ns → ds = ns.map .bl
  | [], ns, h => by cases h; rfl
  | d :: ds, ns, h => by
    cases d <;> simp only [D.bools] at h <;> try cases h
    obtain ⟨ms, e, rfl⟩ := Option.map_eq_some_iff.mp h
    rw [bools_eq e]; rfl
theorem bools_map : ∀ (ns : List Bool), D.bools (ns.map .bl) = some ns
  | [] => rfl
  | n :: ns => by simp [D.bools, bools_map ns]
end

/-! ### frozen heaps -/
def isDic : HO → Bool
  | .dK _ => true | .dT _ => true | _ => false
/-- what is frozen stands in the heap (a dict perhaps locked by a walk) -/
def FLe (F H : Hp) : Prop := ∀ a u, F a = some u → H a = some u ∨ (isDic u = true ∧ ∃ o, H a = some (.frz o u))
theorem FLe.tup {F H : Hp} {a : Addr} {vs : List V} (h : FLe F H) (e : F a = some (.tup vs)) : H a = some (.tup vs) := by
  rcases h a _ e with q | ⟨q, _⟩
  · exact q
  · cases q
theorem FLe.lst {F H : Hp} {a : Addr} {vs : List V} (h : FLe F H) (e : F a = some (.lst vs)) : H a = some (.lst vs) := by
  rcases h a _ e with q | ⟨q, _⟩
  · exact q
  · cases q
theorem FLe.rng {F H : Hp} {a : Addr} {lo hi : Int} (h : FLe F H) (e : F a = some (.rng lo hi)) : H a = some (.rng lo hi) := by
  rcases h a _ e with q | ⟨q, _⟩
  · exact q
  · cases q
theorem FLe.sqL {K : PySem.W.Frag} {F H : Hp} {a : Addr} {vs : List V} (h : FLe F H) (e : SqL K F a vs) : SqL K H a vs := by
  rcases e with (e | ⟨o, e⟩) | e
  · rcases h a _ e with q | ⟨q, _⟩
    · exact .inl (.inl q)
    · cases q
  · rcases h a _ e with q | ⟨q, _⟩
    · exact .inl (.inr ⟨o, q⟩)
    · cases q
  · exact .inr e
theorem FLe.rd {F H : Hp} {a : Addr} {u : HO} (h : FLe F H) (e : F a = some u) : Rd H a u := by
  rcases h a _ e with q | ⟨_, o, q⟩
  · exact .inl q
  · exact .inr ⟨o, q⟩

/-- a tuple -/
def isTupO : HO → Bool
  | .tup _ => true | _ => false
/-- the heap has grown: what was there and what was frozen is as it was; nothing that was there, but tuples, has been frozen meanwhile -/
structure Ext (F H F' H' : Hp) : Prop where
  f : FMono F F'
  h : ∀ a u, H a = some u → H' a = some u
  n : ∀ a u, H a = some u → isTupO u = false → F' a = F a
theorem Ext.refl (F H : Hp) : Ext F H F H := ⟨.refl F, fun _ _ h => h, fun _ _ _ _ => rfl⟩
theorem Ext.trans {F H F1 H1 F2 H2 : Hp} (a : Ext F H F1 H1) (b : Ext F1 H1 F2 H2) : Ext F H F2 H2 :=
  ⟨a.f.trans b.f, fun c u h => b.h c u (a.h c u h), fun c u h z => (b.n c u (a.h c u h) z).trans (a.n c u h z)⟩
/-- a new object, frozen -/
theorem Ext.new {F H : Hp} {a : Addr} {o : HO} (hf : FLe F H) (hn : H a = none) : Ext F H (upd F a o) (upd H a o) := by
  have fn : F a = none := by
    cases q : F a with
    | none => rfl
    | some u => rcases hf a u q with z | ⟨_, _, z⟩ <;> (rw [hn] at z; cases z)
  refine ⟨fun b u e => ?_, fun b u e => ?_, fun b u e _ => ?_⟩
  · rw [upd_ne (ne_of_none e fn)]; exact e
  · rw [upd_ne (ne_of_none e hn)]; exact e
  · rw [upd_ne (ne_of_none e hn)]
theorem FLe.free {F H : Hp} {a : Addr} (hf : FLe F H) (hn : H a = none) : F a = none := by
  cases q : F a with
  | none => rfl
  | some u => rcases hf a u q with z | ⟨_, _, z⟩ <;> (rw [hn] at z; cases z)
theorem FLe.new {F H : Hp} {a : Addr} {o : HO} (hf : FLe F H) (hn : H a = none) : FLe (upd F a o) (upd H a o) := fun b u e => by
  by_cases hb : b = a
  · subst hb; rw [upd_same] at e ⊢; exact .inl e
  · rw [upd_ne hb] at e ⊢; exact hf b u e
/-- a new object, not frozen -/
theorem Ext.made {F H : Hp} {a : Addr} {o : HO} (hn : H a = none) : Ext F H F (upd H a o) :=
  ⟨.refl F, fun b u e => by rw [upd_ne (ne_of_none e hn)]; exact e, fun _ _ _ _ => rfl⟩
theorem FLe.made {F H : Hp} {a : Addr} {o : HO} (hf : FLe F H) (hn : H a = none) : FLe F (upd H a o) := fun b u e => by
  rw [upd_ne (ne_of_none e (hf.free hn))]; exact hf b u e
/-- an object that nobody has is frozen -/
theorem Ext.freeze {F H F' H' : Hp} {a : Addr} {o : HO} (x : Ext F H F' H') (hn : H a = none) (hf : F' a = none) : Ext F H (upd F' a o) H' :=
  ⟨fun b u e => by
    have := x.f b u e
    rw [upd_ne (ne_of_none this hf)]; exact this, x.h, fun b u e z => by rw [upd_ne (ne_of_none e hn)]; exact x.n b u e z⟩
theorem FLe.freeze {F H : Hp} {a : Addr} {o : HO} (hf : FLe F H) (ho : H a = some o) : FLe (upd F a o) H := fun b u e => by
  by_cases hb : b = a
  · subst hb; rw [upd_same] at e; cases e; exact .inl ho
  · rw [upd_ne hb] at e; exact hf b u e
theorem FMono.upd {F : Hp} {a : Addr} {o : HO} (hf : F a = none) : FMono F (upd F a o) := fun b u e => by rw [upd_ne (ne_of_none e hf)]; exact e

/-! ### owned objects, cells -/
/-- at a stands d, its parts frozen -/
def OwnAt (K : PySem.W.Frag) (F H : Hp) (a : Addr) : D → Prop
  | .lst ds => ∃ vs, H a = some (.lst vs) ∧ RepL K F ds vs ∧ ds.length ≤ line
  | .dic false kvs => ∃ ws, H a = some (.dK ws) ∧ RepK K F kvs ws
  | .dic true kvs => ∃ ws, H a = some (.dT ws) ∧ RepT K F kvs ws
  | _ => False
theorem OwnAt.there {K : PySem.W.Frag} {F H : Hp} {a : Addr} {d : D} (h : OwnAt K F H a d) : ∃ u, H a = some u ∧ isTupO u = false := by
  cases d with
  | lst ds => obtain ⟨vs, e, _⟩ := h; exact ⟨_, e, rfl⟩
  | dic t kvs => cases t <;> (obtain ⟨vs, e, _⟩ := h; exact ⟨_, e, rfl⟩)
  | _ => exact False.elim h
theorem OwnAt.mono {K : PySem.W.Frag} {F H F' H' : Hp} {a : Addr} {d : D} (h : OwnAt K F H a d) (m : FMono F F') (e : ∀ u, H a = some u → H' a = some u) : OwnAt K F' H' a d := by
  cases d with
  | lst ds => obtain ⟨vs, q, r, l⟩ := h; exact ⟨vs, e _ q, r.mono m, l⟩
  | dic t kvs => cases t <;> (obtain ⟨vs, q, r⟩ := h; exact ⟨vs, e _ q, r.mono m⟩)
  | _ => exact False.elim h
/-- frozen -/
theorem OwnAt.rep {K : PySem.W.Frag} {F H : Hp} {a : Addr} {d : D} (h : OwnAt K F H a d) (hf : F a = none) : ∃ o, H a = some o ∧ Rep K (upd F a o) d (.ref a) := by
  cases d with
  | lst ds => obtain ⟨vs, q, r, l⟩ := h; exact ⟨_, q, a, vs, rfl, upd_same, r.mono (.upd hf), l⟩
  | dic t kvs => cases t <;> (obtain ⟨vs, q, r⟩ := h; exact ⟨_, q, a, vs, rfl, upd_same, r.mono (.upd hf)⟩)
  | _ => exact False.elim h

structure EnvOk (K : PySem.W.Frag) (F H : Hp) (σ : St) (env : Env) : Prop where
  len : env.length = σ.length
  val : ∀ (i : Nat) (d : D), env[i]? = some (.val d) → ∃ v, σ[i]? = some (some v) ∧ Rep K F d v
  own : ∀ (i : Nat) (d : D), env[i]? = some (.own d) → ∃ a, σ[i]? = some (some (.ref a)) ∧ F a = none ∧ OwnAt K F H a d
  sep : ∀ (i j : Nat) (d e : D) (a : Addr), i ≠ j → env[i]? = some (.own d) → env[j]? = some (.own e) → σ[i]? = some (some (.ref a)) → σ[j]? ≠ some (some (.ref a))
theorem EnvOk.ext {K : PySem.W.Frag} {F H F' H' : Hp} {σ : St} {env : Env} (E : EnvOk K F H σ env) (x : Ext F H F' H') : EnvOk K F' H' σ env where
  len := E.len
  val := fun i d e => let ⟨v, h1, h2⟩ := E.val i d e; ⟨v, h1, h2.mono x.f⟩
  own := fun i d e => by
    obtain ⟨a, h1, h2, h3⟩ := E.own i d e
    obtain ⟨u, hu, nt⟩ := h3.there
    exact ⟨a, h1, (x.n a u hu nt).trans h2, h3.mono x.f fun u => x.h a u⟩
  sep := E.sep

/-- d is to be read at v: frozen, or an owned object -/
def RepB (K : PySem.W.Frag) (F H : Hp) (d : D) (v : V) : Prop := Rep K F d v ∨ ∃ a, v = .ref a ∧ F a = none ∧ OwnAt K F H a d
theorem RepB.ext {K : PySem.W.Frag} {F H F' H' : Hp} {d : D} {v : V} (h : RepB K F H d v) (x : Ext F H F' H') : RepB K F' H' d v := by
  rcases h with h | ⟨a, e, hf, h⟩
  · exact .inl (h.mono x.f)
  · obtain ⟨u, hu, nt⟩ := h.there
    exact .inr ⟨a, e, (x.n a u hu nt).trans hf, h.mono x.f fun u => x.h a u⟩
theorem RepB.int {K : PySem.W.Frag} {F H : Hp} {i : Int} {v : V} (h : RepB K F H (.int i) v) : v = .int i := by
  rcases h with h | ⟨_, _, _, h⟩
  · exact h
  · exact False.elim h
theorem RepB.bl {K : PySem.W.Frag} {F H : Hp} {i : Bool} {v : V} (h : RepB K F H (.bl i) v) : v = .bl i := by
  rcases h with h | ⟨_, _, _, h⟩
  · exact h
  · exact False.elim h
theorem RepB.non {K : PySem.W.Frag} {F H : Hp} {v : V} (h : RepB K F H .non v) : v = .non := by
  rcases h with h | ⟨_, _, _, h⟩
  · exact h
  · exact False.elim h
theorem RepB.tup {K : PySem.W.Frag} {F H : Hp} {ds : List D} {v : V} (h : RepB K F H (.tup ds) v) : ∃ a vs, v = .ref a ∧ F a = some (.tup vs) ∧ RepL K F ds vs ∧ ds.length ≤ line := by
  rcases h with h | ⟨_, _, _, h⟩
  · exact h
  · exact False.elim h
theorem RepB.lst {K : PySem.W.Frag} {F H : Hp} {ds : List D} {v : V} (h : RepB K F H (.lst ds) v) (hf : FLe F H) : ∃ a vs, v = .ref a ∧ H a = some (.lst vs) ∧ RepL K F ds vs ∧ ds.length ≤ line := by
  rcases h with ⟨a, vs, e, q, r, l⟩ | ⟨a, e, _, vs, q, r, l⟩
  · exact ⟨a, vs, e, hf.lst q, r, l⟩
  · exact ⟨a, vs, e, q, r, l⟩
theorem RepB.scr {K : PySem.W.Frag} {F H : Hp} {ns : List Int} {v : V} (h : RepB K F H (.scr ns) v) (hf : FLe F H) : ∃ a, v = .ref a ∧ SqL K H a (ns.map V.int) ∧ ns.length ≤ line := by
  rcases h with ⟨a, e, q, l⟩ | ⟨_, _, _, h⟩
  · exact ⟨a, e, hf.sqL q, l⟩
  · exact False.elim h
theorem RepB.dicK {K : PySem.W.Frag} {F H : Hp} {kvs : List (D × D)} {v : V} (h : RepB K F H (.dic false kvs) v) (hf : FLe F H) : ∃ a ws, v = .ref a ∧ Rd H a (.dK ws) ∧ RepK K F kvs ws := by
  rcases h with ⟨a, vs, e, q, r⟩ | ⟨a, e, _, vs, q, r⟩
  · exact ⟨a, vs, e, hf.rd q, r⟩
  · exact ⟨a, vs, e, .inl q, r⟩
theorem RepB.dicT {K : PySem.W.Frag} {F H : Hp} {kvs : List (D × D)} {v : V} (h : RepB K F H (.dic true kvs) v) (hf : FLe F H) : ∃ a ws, v = .ref a ∧ Rd H a (.dT ws) ∧ RepT K F kvs ws := by
  rcases h with ⟨a, vs, e, q, r⟩ | ⟨a, e, _, vs, q, r⟩
  · exact ⟨a, vs, e, hf.rd q, r⟩
  · exact ⟨a, vs, e, .inl q, r⟩
theorem RepB.rng {K : PySem.W.Frag} {F H : Hp} {lo hi : Int} {v : V} (h : RepB K F H (.rng lo hi) v) (hf : FLe F H) : ∃ a, v = .ref a ∧ H a = some (.rng lo hi) := by
  rcases h with ⟨a, e, q⟩ | ⟨_, _, _, h⟩
  · exact ⟨a, e, hf.rng q⟩
  · exact False.elim h
end Rx
end

section
set_option Elab.async false
set_option linter.all false
set_option maxRecDepth 100000
set_option maxHeartbeats 1000000
set_option autoImplicit false
/-! RxData: plain data as the library's data. -/
namespace Rx
open PySem PySem.Spec PySem.W PyProof.Rows L2

mutual
def D.toPy : D → PyData
  | .non => .none | .bl b => .bool b | .int i => .int i
  | .tup xs => .tuple (D.toPyL xs)
  | .lst xs => .list (D.toPyL xs)
  | _ => .none
def D.toPyL : List D → List PyData
  | [] => []
  | x :: xs => D.toPy x :: D.toPyL xs
end
theorem toPyL_eq : ∀ xs : List D, D.toPyL xs = xs.map D.toPy
  | [] => rfl
  | x :: xs => by rw [D.toPyL, toPyL_eq xs]; rfl
section
variable {K : PySem.W.Frag} {F H : Hp}
mutual
theorem rep_dp (l : FLe F H) : ∀ (d : D) {v : V}, D.plain d = true → Rep K F d v → Dp K H v (D.toPy d)
  | .non, _, _, r => by cases r; exact .non
  | .bl _, _, _, r => by cases r; exact .bl _
  | .int _, _, _, r => by cases r; exact .int _
  | .tup xs, _, p, r => by
    obtain ⟨a, vs, rfl, e, r, _⟩ := r
    exact .tup (.of (l.tup e)) (repL_dp l xs (by simpa [D.plain] using p) r)
  | .lst xs, _, p, r => by
    obtain ⟨a, vs, rfl, e, r, _⟩ := r
    exact .lst (.of (l.lst e)) (repL_dp l xs (by simpa [D.plain] using p) r)
  | .dic _ _, _, p, _ => by simp [D.plain] at p
  | .rng _ _, _, p, _ => by simp [D.plain] at p
  | .scr _, _, p, _ => by simp [D.plain] at p
theorem repL_dp (l : FLe F H) : ∀ (ds : List D) {vs : List V}, D.plainL ds = true → RepL K F ds vs → DpAll K H vs (D.toPyL ds)
  | [], _, _, r => by cases r; exact .nil
  | d :: ds, _, p, r => by
    obtain ⟨v, r', rfl, h1, h2⟩ := r
    simp only [D.plainL, Bool.and_eq_true] at p
    exact .cons (rep_dp l d p.1 h1) (repL_dp l ds p.2 h2)
end
theorem repB_dp (l : FLe F H) {d : D} {v : V} (p : D.plain d = true) (r : RepB K F H d v) : Dp K H v (D.toPy d) := by
  rcases r with r | ⟨a, rfl, f, r⟩
  · exact rep_dp l d p r
  · cases d with
    | lst xs =>
      obtain ⟨vs, e, r, _⟩ := r
      exact .lst (.of e) (repL_dp l xs (by simpa [D.plain] using p) r)
    | dic t kvs => simp [D.plain] at p
    | _ => exact False.elim r
end
mutual
theorem toPy_lay : ∀ d : D, (D.toPy d).canLay0 = true
  | .non => rfl | .bl _ => rfl | .int _ => rfl
  | .tup xs => by rw [D.toPy, PyData.canLay0]; exact toPyL_lay xs
  | .lst xs => by rw [D.toPy, PyData.canLay0]; exact toPyL_lay xs
  | .dic _ _ => rfl | .rng _ _ => rfl | .scr _ => rfl
theorem toPyL_lay : ∀ ds : List D, PyData.canLayAll0 (D.toPyL ds) = true
  | [] => rfl
  | d :: ds => by rw [D.toPyL, PyData.canLayAll0, toPy_lay d, toPyL_lay ds]; rfl
end
mutual
theorem toPy_depth : ∀ d : D, (D.toPy d).depth ≤ D.depth d
  | .non => Nat.le_of_eq rfl | .bl _ => Nat.le_of_eq rfl | .int _ => Nat.le_of_eq rfl
  | .tup xs => by have := toPyL_depth xs; rw [D.toPy, PyData.depth, D.depth]; omega
  | .lst xs => by have := toPyL_depth xs; rw [D.toPy, PyData.depth, D.depth]; omega
  | .dic _ _ => Nat.zero_le _ | .rng _ _ => Nat.zero_le _ | .scr _ => Nat.zero_le _
theorem toPyL_depth : ∀ ds : List D, PyData.depthAll (D.toPyL ds) ≤ D.depthL ds
  | [] => Nat.le_of_eq rfl
  | d :: ds => by have h1 := toPy_depth d; have h2 := toPyL_depth ds; rw [D.toPyL, PyData.depthAll, D.depthL]; omega
end
theorem toPy_shaped {d : D} (h : D.depth d < 60) : SeqAt.shaped (D.toPy d) = true := by
  have := toPy_depth d
  unfold SeqAt.shaped
  rw [toPy_lay d, Bool.true_and, decide_eq_true_eq]
  omega
mutual
theorem toPy_eqv : ∀ a b : D, D.plain a = true → D.plain b = true → PyData.eqv (D.toPy a) (D.toPy b) = D.eqb a b
  | .non, b, _, q => by cases b <;> first | rfl | simp [D.plain] at q
  | .bl _, b, _, q => by
    cases b <;> first | rfl | simp [D.plain] at q
  | .int _, b, _, q => by
    cases b <;> first | rfl | simp [D.plain] at q
  | .tup xs, b, p, q => by
    cases b <;> first | rfl | simp [D.plain] at q
    simp only [D.plain] at p
    rw [D.toPy, D.toPy, PyData.eqv, D.eqb]; exact toPyL_eqv xs _ p q
  | .lst xs, b, p, q => by
    cases b <;> first | rfl | simp [D.plain] at q
    simp only [D.plain] at p
    rw [D.toPy, D.toPy, PyData.eqv, D.eqb]; exact toPyL_eqv xs _ p q
  | .dic _ _, _, p, _ => by simp [D.plain] at p
  | .rng _ _, _, p, _ => by simp [D.plain] at p
  | .scr _, _, p, _ => by simp [D.plain] at p
theorem toPyL_eqv : ∀ a b : List D, D.plainL a = true → D.plainL b = true → PyData.eqvAll (D.toPyL a) (D.toPyL b) = D.eqbL a b
  | [], [], _, _ => rfl
  | [], _ :: _, _, _ => rfl
  | _ :: _, [], _, _ => rfl
  | x :: xs, y :: ys, p, q => by
    simp only [D.plainL, Bool.and_eq_true] at p q
    rw [D.toPyL, D.toPyL, PyData.eqvAll, D.eqbL, toPy_eqv x y p.1 q.1, toPyL_eqv xs ys p.2 q.2]
end
mutual
theorem alike_plain : ∀ a b : D, D.alike a b = true → PySem.W.alike (D.toPy a) (D.toPy b) = true
  | .int _, b, h => by cases b <;> first | rfl | simp [D.alike] at h
  | .tup xs, b, h => by
    cases b <;> try (simp [D.alike] at h; done)
    simp only [D.alike] at h
    rw [D.toPy, D.toPy, PySem.W.alike]; exact alikeL_plain xs _ h
  | .non, _, h => by simp [D.alike] at h
  | .bl _, _, h => by simp [D.alike] at h
  | .lst _, _, h => by simp [D.alike] at h
  | .dic _ _, _, h => by simp [D.alike] at h
  | .rng _ _, _, h => by simp [D.alike] at h
  | .scr _, _, h => by simp [D.alike] at h
theorem alikeL_plain : ∀ a b : List D, D.alikeL a b = true → PySem.W.alikeAll (D.toPyL a) (D.toPyL b) = true
  | [], b, _ => by rw [D.toPyL, PySem.W.alikeAll]
  | _ :: _, [], _ => by rw [D.toPyL, D.toPyL, PySem.W.alikeAll]
  | x :: xs, y :: ys, h => by
    simp only [D.alikeL, Bool.and_eq_true] at h
    rw [D.toPyL, D.toPyL, PySem.W.alikeAll, alike_plain x y h.1, alikeL_plain xs ys h.2]; rfl
end
mutual
/-- equal as the library says, for alike ones -/
theorem alike_eqv : ∀ a b : D, D.alike a b = true → PyData.eqv (D.toPy a) (D.toPy b) = D.eqb a b
  | .int i, b, h => by cases b <;> first | exact toPy_eqv _ _ rfl rfl | simp [D.alike] at h
  | .tup xs, b, h => by
    cases b <;> try (simp [D.alike] at h; done)
    simp only [D.alike] at h
    rw [D.toPy, D.toPy, PyData.eqv, D.eqb]; exact alikeL_eqv xs _ h
  | .non, _, h => by simp [D.alike] at h
  | .bl _, _, h => by simp [D.alike] at h
  | .lst _, _, h => by simp [D.alike] at h
  | .dic _ _, _, h => by simp [D.alike] at h
  | .rng _ _, _, h => by simp [D.alike] at h
  | .scr _, _, h => by simp [D.alike] at h
theorem alikeL_eqv : ∀ a b : List D, D.alikeL a b = true → PyData.eqvAll (D.toPyL a) (D.toPyL b) = D.eqbL a b
  | [], [], _ => rfl
  | [], _ :: _, _ => rfl
  | _ :: _, [], _ => rfl
  | x :: xs, y :: ys, h => by
    simp only [D.alikeL, Bool.and_eq_true] at h
    rw [D.toPyL, D.toPyL, PyData.eqvAll, D.eqbL, alike_eqv x y h.1, alikeL_eqv xs ys h.2]
end
mutual
theorem toPy_lt : ∀ a b : D, D.alike a b = true → PySem.W.dataLt (D.toPy a) (D.toPy b) = D.ltb a b
  | .int i, b, h => by
    cases b <;> try (simp [D.alike] at h; done)
    rw [D.toPy, D.toPy, PySem.W.dataLt_int, D.ltb]
  | .tup xs, b, h => by
    cases b <;> try (simp [D.alike] at h; done)
    simp only [D.alike] at h
    rw [D.toPy, D.toPy, PySem.W.dataLt_tuple, D.ltb]; exact toPyL_lt xs _ h
  | .non, _, h => by simp [D.alike] at h
  | .bl _, _, h => by simp [D.alike] at h
  | .lst _, _, h => by simp [D.alike] at h
  | .dic _ _, _, h => by simp [D.alike] at h
  | .rng _ _, _, h => by simp [D.alike] at h
  | .scr _, _, h => by simp [D.alike] at h
theorem toPyL_lt : ∀ a b : List D, D.alikeL a b = true → PyProof.Rows.lexLt itemOrd (PySem.W.keyToksAll (D.toPyL a)) (PySem.W.keyToksAll (D.toPyL b)) = D.ltbL a b
  | [], [], _ => rfl
  | [], y :: ys, _ => by
    rw [D.toPyL, D.toPyL, PySem.W.toks_all_cons, D.ltbL, PySem.W.keyToksAll, PySem.W.lex_atom (by decide)]; rfl
  | x :: xs, [], _ => by
    rw [D.toPyL, D.toPyL, PySem.W.toks_all_cons, D.ltbL, PySem.W.keyToksAll, PySem.W.lex_atom (by decide)]; rfl
  | x :: xs, y :: ys, h => by
    simp only [D.alikeL, Bool.and_eq_true] at h
    have ha := alike_plain x y h.1
    have he := alike_eqv x y h.1
    rw [D.toPyL, D.toPyL, D.ltbL]
    cases e : D.eqb x y with
    | true => rw [PySem.W.dataLt_all_yes ha (he.trans e), toPyL_lt xs ys h.2]; rfl
    | false => rw [PySem.W.dataLt_all_no ha (he.trans e), toPy_lt x y h.1]; rfl
end
end Rx
end

section
set_option Elab.async false
set_option linter.all false
set_option maxRecDepth 100000
set_option maxHeartbeats 1000000
set_option autoImplicit false
/-! RxSound1: an expression's reading by what ev says of it. -/
namespace Rx
open PySem PySem.Spec PyProof.Rows L2

abbrev Gm := Nat → List D → Option D
structure Ok (K : PySem.W.Frag) (F H : Hp) (σ : St) (env : Env) : Prop where
  le : FLe F H
  en : EnvOk K F H σ env
theorem Ok.ext {K : PySem.W.Frag} {F H F' H' : Hp} {σ : St} {env : Env} (o : Ok K F H σ env) (x : Ext F H F' H') (l : FLe F' H') : Ok K F' H' σ env := ⟨l, o.en.ext x⟩

def tD (K : PySem.W.Frag) (G : Gm) (e : E) : TE := fun σ H Q => ∃ F env d, Ok K F H σ env ∧ ev G env e = some d ∧ ∀ F' H' v, Ext F H F' H' → FLe F' H' → Rep K F' d v → Q v H'
def tB (K : PySem.W.Frag) (G : Gm) (e : E) : TE := fun σ H Q => ∃ F env d, Ok K F H σ env ∧ bo env e (ev G env e) = some d ∧ ∀ F' H' v, Ext F H F' H' → FLe F' H' → RepB K F' H' d v → Q v H'
def tT (K : PySem.W.Frag) (G : Gm) (e : C) : TT := fun σ H Q => ∃ F env c, Ok K F H σ env ∧ ts G env e = some c ∧ ∀ F' H', Ext F H F' H' → FLe F' H' → Q c H'
def tL (K : PySem.W.Frag) (G : Gm) (es : List E) : TA := fun σ H Q => ∃ F env ds, Ok K F H σ env ∧ evL G env es = some ds ∧ ∀ F' H' vs, Ext F H F' H' → FLe F' H' → RepL K F' ds vs → Q vs H'
def RepBL (K : PySem.W.Frag) (F H : Hp) : List D → List V → Prop
  | [], vs => vs = []
  | d :: ds, vs => ∃ v r, vs = v :: r ∧ RepB K F H d v ∧ RepBL K F H ds r
theorem RepBL.ext {K : PySem.W.Frag} {F H F' H' : Hp} (x : Ext F H F' H') : ∀ {ds : List D} {vs : List V}, RepBL K F H ds vs → RepBL K F' H' ds vs
  | [], _, h => h
  | d :: ds, _, h => let ⟨v, r, e, h1, h2⟩ := h; ⟨v, r, e, h1.ext x, RepBL.ext x h2⟩
def tLB (K : PySem.W.Frag) (G : Gm) (es : List E) : TA := fun σ H Q => ∃ F env ds, Ok K F H σ env ∧ evB G env es = some ds ∧ ∀ F' H' vs, Ext F H F' H' → FLe F' H' → RepBL K F' H' ds vs → Q vs H'

theorem _root_.L2.PE.imp {X : Cx} {e : Expr} {t t' : TE} (h : PE X e t) (m : ∀ σ H Q, t' σ H Q → t σ H Q) : PE X e t' := ⟨fun pins s σ H Q I q => h.run pins s σ H Q I (m σ H Q q)⟩
theorem _root_.L2.PT.imp {X : Cx} {e : Expr} {t t' : TT} (h : PT X e t) (m : ∀ σ H Q, t' σ H Q → t σ H Q) : PT X e t' := ⟨fun pins s σ H Q I q => h.run pins s σ H Q I (m σ H Q q)⟩
theorem _root_.L2.PW.imp {X : Cx} {e : Expr} {t t' : TT} (h : PW X e t) (m : ∀ σ H Q, t' σ H Q → t σ H Q) : PW X e t' := ⟨fun wh pins s σ H Q I q => h.run wh pins s σ H Q I (m σ H Q q)⟩
theorem _root_.L2.PA.imp {X : Cx} {e : List Expr} {t t' : TA} (h : PA X e t) (m : ∀ σ H Q, t' σ H Q → t σ H Q) : PA X e t' := ⟨fun pos pins s σ H Q I q => h.run pos pins s σ H Q I (m σ H Q q)⟩
theorem _root_.L2.PE.or {X : Cx} {e : Expr} {t t' : TE} (h : PE X e t) (h' : PE X e t') : PE X e (fun σ H Q => t σ H Q ∨ t' σ H Q) := ⟨fun pins s σ H Q I q => q.elim (h.run pins s σ H Q I) (h'.run pins s σ H Q I)⟩

section
variable {X : Cx} {G : Gm} {K : PySem.W.Frag} {F H : Hp} {σ : St} {env : Env} {Q : VK} {e a b c : E} {me ma mb mc : Expr} {pos : Pos}
theorem runD {d : D} (o : Ok K F H σ env) (h : ev G env e = some d) (k : ∀ F' H' v, Ext F H F' H' → Ok K F' H' σ env → Rep K F' d v → Q v H') : tD K G e σ H Q :=
  ⟨F, env, d, o, h, fun F' H' v x l r => k F' H' v x (o.ext x l) r⟩
theorem runB {d : D} (o : Ok K F H σ env) (h : bo env e (ev G env e) = some d) (k : ∀ F' H' v, Ext F H F' H' → Ok K F' H' σ env → RepB K F' H' d v → Q v H') : tB K G e σ H Q :=
  ⟨F, env, d, o, h, fun F' H' v x l r => k F' H' v x (o.ext x l) r⟩
theorem tB_of (hne : ∀ i, e ≠ .var i) (h : PE X me (tD K G e)) : PE X me (tB K G e) := h.imp fun σ H Q ⟨F, env, d, o, hd, k⟩ =>
  ⟨F, env, d, o, by cases e <;> first | exact hd | exact absurd rfl (hne _), fun F' H' v x l r => k F' H' v x l (.inl r)⟩

/-! ### what is made -/
/-- what is wanted of a value d -/
abbrev Want (K : PySem.W.Frag) (F H : Hp) (d : D) (Q : VK) : Prop := ∀ F' H' v, Ext F H F' H' → FLe F' H' → Rep K F' d v → Q v H'
theorem Want.flat {d : D} {v : V} (q : Want K F H d Q) (l : FLe F H) (r : Rep K F d v) : Q v H := q F H v (.refl F H) l r
theorem Want.tup {ds : List D} {vs : List V} {p : Addr} (q : Want K F H (.tup ds) Q) (l : FLe F H) (r : RepL K F ds vs) (z : ds.length ≤ line) (n : H p = none) : Q (.ref p) (upd H p (.tup vs)) :=
  q _ _ _ (.new l n) (l.new n) ⟨p, vs, rfl, upd_same, r.mono (.upd (l.free n)), z⟩
theorem Want.lst {ds : List D} {vs : List V} {p : Addr} (q : Want K F H (.lst ds) Q) (l : FLe F H) (r : RepL K F ds vs) (z : ds.length ≤ line) (n : H p = none) : Q (.ref p) (upd H p (.lst vs)) :=
  q _ _ _ (.new l n) (l.new n) ⟨p, vs, rfl, upd_same, r.mono (.upd (l.free n)), z⟩

/-! ### names, constants -/
theorem r_varD {i : Nat} {x : Str} (h : PE X (.Name x pos) (L2.tVar i)) : PE X (.Name x pos) (tD K G (.var i)) := h.imp fun σ H Q ⟨F, env, d, o, hd, k⟩ => by
  have hd' : env.val i = some d := hd
  unfold Env.val at hd'
  split at hd'
  · rename_i z hz
    cases hd'
    obtain ⟨v, e1, r⟩ := o.en.val i d hz
    exact ⟨v, e1, k F H v (.refl F H) o.le r⟩
  · cases hd'
theorem r_varB {i : Nat} {x : Str} (h : PE X (.Name x pos) (L2.tVar i)) : PE X (.Name x pos) (tB K G (.var i)) := h.imp fun σ H Q ⟨F, env, d, o, hd, k⟩ => by
  have hd' : env.bor i = some d := hd
  unfold Env.bor at hd'
  split at hd'
  · rename_i z hz
    cases hd'
    obtain ⟨v, e1, r⟩ := o.en.val i d hz
    exact ⟨v, e1, k F H v (.refl F H) o.le (.inl r)⟩
  · rename_i z hz
    cases hd'
    obtain ⟨a, e1, f, r⟩ := o.en.own i d hz
    exact ⟨.ref a, e1, k F H _ (.refl F H) o.le (.inr ⟨a, rfl, f, r⟩)⟩
  · cases hd'
theorem r_int {i : Int} {j : Nat} : PE X (.Constant (.int i) j pos) (tD K G (.int i)) := pe_int.imp fun σ H Q ⟨F, env, d, o, hd, k⟩ => by
  cases hd; exact k F H _ (.refl F H) o.le rfl
theorem r_bl {i : Bool} {j : Nat} : PE X (.Constant (.bool i) j pos) (tD K G (.bl i)) := pe_bl.imp fun σ H Q ⟨F, env, d, o, hd, k⟩ => by
  cases hd; exact k F H _ (.refl F H) o.le rfl
theorem r_non {j : Nat} : PE X (.Constant .none j pos) (tD K G .non) := pe_non.imp fun σ H Q ⟨F, env, d, o, hd, k⟩ => by
  cases hd; exact k F H _ (.refl F H) o.le rfl

/-! ### operators -/
/-- r asks of the values what f says of the data -/
def R2ok (K : PySem.W.Frag) (f : D → D → Option D) (r : R2) : Prop := ∀ (x y z : D) (F H : Hp) (v u : V) (Q : VK), f x y = some z → FLe F H → RepB K F H x v → RepB K F H y u → Want K F H z Q → r v u H Q
theorem r_op2 {f : D → D → Option D} {r : R2} (hr : R2ok K f r) {σ : St} {H : Hp} {Q : VK} {F : Hp} {env : Env} {x y z : D} (o : Ok K F H σ env) (hx : bo env a (ev G env a) = some x) (hy : bo env b (ev G env b) = some y) (hz : f x y = some z) (k : Want K F H z Q) :
    L2.tOp r (tB K G a) (tB K G b) σ H Q :=
  runB o hx fun F1 H1 v x1 o1 r1 => runB o1 hy fun F2 H2 u x2 o2 r2 => hr x y z F2 H2 v u Q hz o2.le (r1.ext x2) r2 fun F' H' w x3 l3 r3 => k F' H' w ((x1.trans x2).trans x3) l3 r3
theorem r_bin {o : BO} {op : Operator} {r : R2} (ho : OpR X (binaryOp op) r) (hr : R2ok K (opB o) r) (ha : PE X ma (tB K G a)) (hb : PE X mb (tB K G b)) : PE X (.BinOp ma op mb pos) (tD K G (.bin o a b)) :=
  (pe_op ho ha hb).imp fun σ H Q ⟨F, env, d, ok, hd, k⟩ => by
    obtain ⟨x, hx, hd⟩ := Option.bind_eq_some_iff.mp (show (bo env a (ev G env a)).bind _ = some d from hd)
    obtain ⟨y, hy, hd⟩ := Option.bind_eq_some_iff.mp hd
    exact r_op2 hr ok hx hy hd k

theorem add_ok : R2ok K (opB .add) (fun x y H Q => rI0 (fun i j => V.int (i + j)) x y H Q ∨ rCatA K x y H Q ∨ rCat x y H Q) := by
  intro x y z F H v u Q hz l rx ry k
  cases x <;> cases y <;> simp only [opB] at hz <;> try cases hz
  · exact .inl ⟨_, _, rx.int, ry.int, k.flat l rfl⟩
  · rename_i xs ys
    split at hz <;> cases hz
    rename_i hl
    obtain ⟨a, vs, rfl, ea, ra, la⟩ := rx.tup
    obtain ⟨b, us, rfl, eb, rb, lb⟩ := ry.tup
    have hv := ra.length
    have hu := rb.length
    refine .inr (.inl ⟨a, b, vs, us, rfl, rfl, .of (l.tup ea), .of (l.tup eb), by rw [line_eq]; omega, fun e => ?_, fun n e => ?_, fun _ _ p n => k.tup l (ra.append rb) (by simpa using hl) n⟩)
    · subst e
      obtain rfl : xs = [] := List.eq_nil_of_length_eq_zero hv.symm
      exact k.flat l ⟨b, us, rfl, eb, rb, lb⟩
    · subst e
      obtain rfl : ys = [] := List.eq_nil_of_length_eq_zero hu.symm
      rw [List.append_nil] at k
      exact k.flat l ⟨a, vs, rfl, ea, ra, la⟩
  · rename_i xs ys
    split at hz <;> cases hz
    rename_i hl
    obtain ⟨a, vs, rfl, ea, ra, la⟩ := rx.lst l
    obtain ⟨b, us, rfl, eb, rb, lb⟩ := ry.lst l
    have hv := ra.length
    have hu := rb.length
    exact .inr (.inr ⟨a, b, vs, us, rfl, rfl, ea, eb, by rw [line_eq]; omega, fun p n => k.lst l (ra.append rb) (by simpa using hl) n⟩)
theorem op_addA : OpR X (binaryOp .Add) (fun x y H Q => rI0 (fun i j => V.int (i + j)) x y H Q ∨ rCatA X.K x y H Q ∨ rCat x y H Q) := op_add.or (op_catA.or op_cat)
theorem sub_ok : R2ok K (opB .sub) (rI0 fun i j => .int (i - j)) := by
  intro x y z F H v u Q hz l rx ry k
  cases x <;> cases y <;> simp only [opB] at hz <;> try cases hz
  exact ⟨_, _, rx.int, ry.int, k.flat l rfl⟩
theorem mulOk_of {i j : Int} (h : mulOk i j = true) : CMul i j ∨ CMulW i j := by
  unfold mulOk at h
  simp only [Bool.or_eq_true, Bool.and_eq_true, decide_eq_true_eq] at h
  rcases h with (h | h) | ⟨h, h'⟩
  · exact .inl (.inl ⟨by omega, by omega⟩)
  · exact .inl (.inr ⟨by omega, by omega⟩)
  · exact .inr (wide_mul h h' (by decide) (by decide) (by decide))
theorem mul_ok : R2ok K (opB .mul) (fun x y H Q => (rI CMul (fun i j => V.int (i * j)) x y H Q ∨ rI CMulW (fun i j => V.int (i * j)) x y H Q) ∨ rRep x y H Q) := by
  intro x y z F H v u Q hz l rx ry k
  cases x <;> cases y <;> simp only [opB] at hz <;> try cases hz
  · split at hz <;> cases hz
    rename_i hm
    rcases mulOk_of hm with c | c
    · exact .inl (.inl ⟨_, _, rx.int, ry.int, c, k.flat l rfl⟩)
    · exact .inl (.inr ⟨_, _, rx.int, ry.int, c, k.flat l rfl⟩)
  · rename_i xs j
    split at hz <;> cases hz
    rename_i hm
    obtain ⟨a, vs, rfl, ea, ra, la⟩ := rx.lst l
    have hv := ra.length
    refine .inr ⟨a, j, vs, rfl, ry.int, ea, by omega, by omega, ?_, fun p n => k.lst l (ra.rep _) ?_ n⟩
    · rw [line_eq, hv]; exact hm.2.2
    · rw [List.length_flatten, List.map_replicate, List.sum_replicate_nat]
      rw [Nat.mul_comm]; exact hm.2.2
theorem op_mulA : OpR X (binaryOp .Mult) (fun x y H Q => (rI CMul (fun i j => V.int (i * j)) x y H Q ∨ rI CMulW (fun i j => V.int (i * j)) x y H Q) ∨ rRep x y H Q) := (op_mul.or op_mulW).or op_rep
theorem fdiv_ok : R2ok K (opB .fdiv) (fun x y H Q => rI CDivN (fun i j => V.int (i.fdiv j)) x y H Q ∨ rI CDivW (fun i j => V.int (i / j)) x y H Q) := by
  intro x y z F H v u Q hz l rx ry k
  cases x <;> cases y <;> simp only [opB] at hz <;> try cases hz
  split at hz <;> cases hz
  rename_i i j hm
  unfold divOk at hm
  simp only [Bool.or_eq_true, Bool.and_eq_true, decide_eq_true_eq] at hm
  rcases hm with ⟨h1, h2⟩ | ⟨h1, h2⟩
  · exact .inl ⟨_, _, rx.int, ry.int, ⟨h1, h2⟩, k.flat l rfl⟩
  · refine .inr ⟨_, _, rx.int, ry.int, wide_div h1 h2 (by decide) (by decide), k.flat l ?_⟩
    rw [Int.fdiv_eq_ediv_of_nonneg _ (by omega)]; rfl
theorem op_fdivA : OpR X (binaryOp .FloorDiv) (fun x y H Q => rI CDivN (fun i j => V.int (i.fdiv j)) x y H Q ∨ rI CDivW (fun i j => V.int (i / j)) x y H Q) := op_fdivN.or op_fdivW
theorem mod_ok : R2ok K (opB .mod) (rI (fun _ j => j ≠ 0) fun i j => .int (i.fmod j)) := by
  intro x y z F H v u Q hz l rx ry k
  cases x <;> cases y <;> simp only [opB] at hz <;> try cases hz
  split at hz <;> cases hz
  rename_i hm
  exact ⟨_, _, rx.int, ry.int, hm, k.flat l rfl⟩
theorem pow_ok : R2ok K (opB .pow) (rI CPow fun i j => .int (i ^ j.toNat)) := by
  intro x y z F H v u Q hz l rx ry k
  cases x <;> cases y <;> simp only [opB] at hz <;> try cases hz
  split at hz <;> cases hz
  rename_i hm
  exact ⟨_, _, rx.int, ry.int, ⟨hm.1, by omega, hm.2.2⟩, k.flat l rfl⟩
theorem r_neg (ha : PE X ma (tD K G a)) : PE X (.UnaryOp .USub ma pos) (tD K G (.neg a)) := (pe_un un_neg ha).imp fun σ H Q ⟨F, env, d, o, hd, k⟩ => by
  obtain ⟨x, hx, hd⟩ := Option.bind_eq_some_iff.mp (show (ev G env a).bind _ = some d from hd)
  cases x <;> simp only at hd <;> try cases hd
  exact runD o hx fun F1 H1 v x1 o1 r1 => ⟨_, r1, k _ _ _ x1 o1.le rfl⟩

/-! ### truth -/
theorem em_len {α β : Type} {xs : List α} {ys : List β} (h : ys.length = xs.length) : (!xs.isEmpty) = (!ys.isEmpty) := by
  cases xs <;> cases ys <;> first | rfl | simp at h
theorem tru_of {x : D} {v : V} {c : Bool} (h : D.truth x = some c) (l : FLe F H) (r : RepB K F H x v) : TruV K v H c := by
  cases x <;> simp only [D.truth] at h <;> try cases h
  · rw [r.non]; rfl
  · rw [r.bl]; rfl
  · rw [r.int]; rfl
  · obtain ⟨a, vs, rfl, ea, ra, la⟩ := r.tup
    exact .inr (.inl ⟨vs, .of (l.tup ea), em_len ra.length⟩)
  · obtain ⟨a, vs, rfl, ea, ra, la⟩ := r.lst l
    exact .inl ⟨vs, .of ea, em_len ra.length⟩
theorem r_not (ha : PE X ma (tB X.K G a)) : PE X (.UnaryOp .Not ma pos) (tD X.K G (.not a)) := (pe_notT ha).imp fun σ H Q ⟨F, env, d, o, hd, k⟩ => by
  obtain ⟨x, hx, hd⟩ := Option.bind_eq_some_iff.mp (show (bo env a (ev G env a)).bind _ = some d from hd)
  obtain ⟨c, hc, rfl⟩ := Option.map_eq_some_iff.mp hd
  exact runB o hx fun F1 H1 v x1 o1 r1 => ⟨c, tru_of hc o1.le r1, k _ _ _ x1 o1.le rfl⟩
theorem r_and {rest : List Expr} (ha : PE X ma (tD K G a)) (hb : PE X (.BoolOp .And (mb :: rest) pos) (tD K G b)) : PE X (.BoolOp .And (ma :: mb :: rest) pos) (tD K G (.and a b)) := (pe_and ha hb).imp fun σ H Q ⟨F, env, d, o, hd, k⟩ => by
  obtain ⟨x, hx, hd⟩ := Option.bind_eq_some_iff.mp (show (ev G env a).bind _ = some d from hd)
  cases x <;> simp only at hd <;> try cases hd
  rename_i c
  refine runD o hx fun F1 H1 v x1 o1 r1 => ⟨c, r1, ?_⟩
  cases c with
  | true => exact runD o1 hd fun F2 H2 u x2 o2 r2 => k _ _ _ (x1.trans x2) o2.le r2
  | false => cases hd; exact k _ _ _ x1 o1.le rfl
theorem r_or {rest : List Expr} (ha : PE X ma (tD K G a)) (hb : PE X (.BoolOp .Or (mb :: rest) pos) (tD K G b)) : PE X (.BoolOp .Or (ma :: mb :: rest) pos) (tD K G (.or a b)) := (pe_or ha hb).imp fun σ H Q ⟨F, env, d, o, hd, k⟩ => by
  obtain ⟨x, hx, hd⟩ := Option.bind_eq_some_iff.mp (show (ev G env a).bind _ = some d from hd)
  cases x <;> simp only at hd <;> try cases hd
  rename_i c
  refine runD o hx fun F1 H1 v x1 o1 r1 => ⟨c, r1, ?_⟩
  cases c with
  | false => exact runD o1 hd fun F2 H2 u x2 o2 r2 => k _ _ _ (x1.trans x2) o2.le r2
  | true => cases hd; exact k _ _ _ x1 o1.le rfl

/-! ### tests -/
variable {p q : C}
theorem runT {c : Bool} {Q : Bool → Hp → Prop} (o : Ok K F H σ env) (h : ts G env p = some c) (k : ∀ F' H', Ext F H F' H' → Ok K F' H' σ env → Q c H') : tT K G p σ H Q :=
  ⟨F, env, c, o, h, fun F' H' x l => k F' H' x (o.ext x l)⟩
theorem t_val (ha : PE X ma (tB X.K G a)) (he : ∀ whole, isTrue ma X.env whole = (do let v ← whole; standAt ma.pos; holding [v] (truthy v))) : PT X ma (tT X.K G (.val a)) := (pt_truth ha he).imp fun σ H Q ⟨F, env, c, o, hd, k⟩ => by
  obtain ⟨x, hx, hd⟩ := Option.bind_eq_some_iff.mp (show (bo env a (ev G env a)).bind _ = some c from hd)
  exact runB o hx fun F1 H1 v x1 o1 r1 => ⟨c, tru_of hd o1.le r1, k _ _ x1 o1.le⟩
theorem t_not (ha : PT X ma (tT K G p)) : PT X (.UnaryOp .Not ma pos) (tT K G (.not p)) := (pt_not ha).imp fun σ H Q ⟨F, env, c, o, hd, k⟩ => by
  obtain ⟨c, hc, rfl⟩ := Option.map_eq_some_iff.mp (show (ts G env p).map not = some c from hd)
  exact runT o hc fun F1 H1 x1 o1 => k _ _ x1 o1.le
theorem t_and {rest : List Expr} (ha : PT X ma (tT K G p)) (hb : PW X (.BoolOp .And (mb :: rest) pos) (tT K G q)) : PW X (.BoolOp .And (ma :: mb :: rest) pos) (tT K G (.and p q)) := (pw_and ha hb).imp fun σ H Q ⟨F, env, c, o, hd, k⟩ => by
  obtain ⟨x, hx, hd⟩ := Option.bind_eq_some_iff.mp (show (ts G env p).bind _ = some c from hd)
  refine runT o hx fun F1 H1 x1 o1 => ?_
  cases x with
  | true => exact runT o1 hd fun F2 H2 x2 o2 => k _ _ (x1.trans x2) o2.le
  | false => cases hd; exact k _ _ x1 o1.le
theorem t_or {rest : List Expr} (ha : PT X ma (tT K G p)) (hb : PW X (.BoolOp .Or (mb :: rest) pos) (tT K G q)) : PW X (.BoolOp .Or (ma :: mb :: rest) pos) (tT K G (.or p q)) := (pw_or ha hb).imp fun σ H Q ⟨F, env, c, o, hd, k⟩ => by
  obtain ⟨x, hx, hd⟩ := Option.bind_eq_some_iff.mp (show (ts G env p).bind _ = some c from hd)
  refine runT o hx fun F1 H1 x1 o1 => ?_
  cases x with
  | false => exact runT o1 hd fun F2 H2 x2 o2 => k _ _ (x1.trans x2) o2.le
  | true => cases hd; exact k _ _ x1 o1.le

/-! ### comparisons -/
/-- what a comparison gives, as a value -/
abbrev cmpD (o : CO) (x y : D) : Option D := (opC o x y).map .bl
theorem _root_.L2.PC.imp {X : Cx} {op : CmpOp} {a b : Expr} {t t' : TE} (h : PC X op a b t) (m : ∀ σ H Q, t' σ H Q → t σ H Q) : PC X op a b t' := ⟨fun pins s σ H Q I q => h.run pins s σ H Q I (m σ H Q q)⟩
theorem _root_.L2.PC.or {X : Cx} {op : CmpOp} {a b : Expr} {t t' : TE} (h : PC X op a b t) (h' : PC X op a b t') : PC X op a b (fun σ H Q => t σ H Q ∨ t' σ H Q) := ⟨fun pins s σ H Q I q => q.elim (h.run pins s σ H Q I) (h'.run pins s σ H Q I)⟩
theorem pc_of {op : CmpOp} {r : R2} (ho : OpR X (compareOp op) r) {ta tb : TE} (ha : PE X ma ta) (hb : PE X mb tb) : PC X op ma mb (L2.tOp r ta tb) := ⟨fun pins s σ H Q I h => by
  refine thn (ha.run pins s σ H _ I h) fun v s1 ⟨x, H1, I1, r1, q1⟩ => ?_
  refine thn (hb.run pins s1 σ H1 _ I1 q1) fun u s2 ⟨y, H2, I2, r2, q2⟩ => ?_
  exact ho pins s2 σ H2 x y v u _ I2 r1 r2 q2⟩
/-- the two operands' comparison -/
def tC2 (K : PySem.W.Frag) (G : Gm) (o : CO) (a b : E) : TE := tD K G (.cmp o a b)
theorem pc_op {o : CO} {op : CmpOp} {r : R2} (ho : OpR X (compareOp op) r) (hr : R2ok K (cmpD o) r) (ha : PE X ma (tB K G a)) (hb : PE X mb (tB K G b)) : PC X op ma mb (tC2 K G o a b) :=
  (pc_of ho ha hb).imp fun σ H Q ⟨F, env, d, ok, hd, k⟩ => by
    obtain ⟨x, hx, hd⟩ := Option.bind_eq_some_iff.mp (show (bo env a (ev G env a)).bind _ = some d from hd)
    obtain ⟨y, hy, hd⟩ := Option.bind_eq_some_iff.mp hd
    exact r_op2 hr ok hx hy hd k
theorem r_cmp {o : CO} {op : CmpOp} (h : PC X op ma mb (tC2 K G o a b)) (hm : behindInMarks op mb = false) : PE X (.Compare ma [op] [mb] pos) (tD K G (.cmp o a b)) := pe_cmp h hm
theorem t_cmp {o : CO} {op : CmpOp} (h : PC X op ma mb (tC2 K G o a b)) (hm : behindInMarks op mb = false) : PT X (.Compare ma [op] [mb] pos) (tT K G (.val (.cmp o a b))) := (pt_cmp h hm).imp fun σ H Q ⟨F, env, c, ok, hd, k⟩ => by
  obtain ⟨z, hz, hd⟩ := Option.bind_eq_some_iff.mp (show (ev G env (.cmp o a b)).bind _ = some c from hd)
  refine ⟨F, env, z, ok, hz, fun F' H' v x l r => ?_⟩
  obtain ⟨x', _, hz⟩ := Option.bind_eq_some_iff.mp (show (bo env a (ev G env a)).bind _ = some z from hz)
  obtain ⟨y', _, hz⟩ := Option.bind_eq_some_iff.mp hz
  obtain ⟨d, _, rfl⟩ := Option.map_eq_some_iff.mp hz
  cases hd
  exact ⟨_, r, k _ _ x l⟩
theorem cmp_ints {o : CO} {g : Int → Int → Bool} (hg : ∀ x y c, opC o x y = some c → ∃ i j, x = .int i ∧ y = .int j ∧ c = g i j) : R2ok K (cmpD o) (rI0 fun i j => .bl (g i j)) := by
  intro x y z F H v u Q hz l rx ry k
  obtain ⟨c, hc, rfl⟩ := Option.map_eq_some_iff.mp hz
  obtain ⟨i, j, rfl, rfl, rfl⟩ := hg x y c hc
  exact ⟨_, _, rx.int, ry.int, k.flat l rfl⟩
theorem le_ok : R2ok K (cmpD .le) (rI0 fun i j => .bl (decide (i ≤ j))) := cmp_ints fun x y c h => by
  cases x <;> cases y <;> simp only [opC] at h <;> cases h
  exact ⟨_, _, rfl, rfl, rfl⟩
theorem ge_ok : R2ok K (cmpD .ge) (rI0 fun i j => .bl (decide (j ≤ i))) := cmp_ints fun x y c h => by
  cases x <;> cases y <;> simp only [opC] at h <;> cases h
  exact ⟨_, _, rfl, rfl, rfl⟩
theorem gt_ok : R2ok K (cmpD .gt) (rI0 fun i j => .bl (decide (j < i))) := cmp_ints fun x y c h => by
  cases x <;> cases y <;> simp only [opC] at h <;> cases h
  exact ⟨_, _, rfl, rfl, rfl⟩
/-- a < b of alike data -/
def rLtA (K : PySem.W.Frag) : R2 := fun x y H Q => ∃ d e, D.alike d e = true ∧ D.depth d < 60 ∧ Dp K H x (D.toPy d) ∧ Dp K H y (D.toPy e) ∧ Q (.bl (D.ltb d e)) H
theorem op_ltA (hu : X.A.units + 64 < cLine) : OpR X (compareOp .Lt) (rLtA X.K) := by
  intro pins s σ H x y v u Q I rx ry ⟨d, e, al, dp, hd, he, q⟩
  obtain ⟨as, r1⟩ := Dp.reads I _ x v hd rx
  obtain ⟨bs, r2⟩ := Dp.reads I _ y u he ry
  have := toPy_depth d
  refine PySem.W.rcLt_alike _ _ X.A s v u as bs r1 r2 (alike_plain d e al) (fun z => ?_) (by omega) _ _ _ _ ⟨.bl (D.ltb d e), H, I, by rw [toPy_lt d e al]; rfl, q⟩
  cases d <;> first | (simp [D.toPy] at z; done) | (simp [D.alike] at al; done)
theorem lt_ok : R2ok K (cmpD .lt) (rLtA K) := by
  intro x y z F H v u Q hz l rx ry k
  obtain ⟨c, hc, rfl⟩ := Option.map_eq_some_iff.mp hz
  simp only [opC] at hc
  split at hc <;> cases hc
  rename_i h
  simp only [Bool.and_eq_true, decide_eq_true_eq] at h
  exact ⟨x, y, h.1.2, h.2, repB_dp l h.1.1.1 rx, repB_dp l h.1.1.2 ry, k.flat l rfl⟩
theorem eq_ok : R2ok K (cmpD .eq) (rEqD K) := by
  intro x y z F H v u Q hz l rx ry k
  obtain ⟨c, hc, rfl⟩ := Option.map_eq_some_iff.mp hz
  simp only [opC] at hc
  split at hc <;> cases hc
  rename_i h
  simp only [Bool.and_eq_true, decide_eq_true_eq] at h
  exact ⟨_, _, repB_dp l h.1.1.1 rx, repB_dp l h.1.1.2 ry, toPy_shaped h.1.2, toPy_shaped h.2, by rw [toPy_eqv x y h.1.1.1 h.1.1.2]; exact k.flat l rfl⟩
theorem ne_ok : R2ok K (cmpD .ne) (rNeD K) := by
  intro x y z F H v u Q hz l rx ry k
  obtain ⟨c, hc, rfl⟩ := Option.map_eq_some_iff.mp hz
  simp only [opC] at hc
  split at hc <;> cases hc
  rename_i h
  simp only [Bool.and_eq_true, decide_eq_true_eq] at h
  exact ⟨_, _, repB_dp l h.1.1.1 rx, repB_dp l h.1.1.2 ry, toPy_shaped h.1.2, toPy_shaped h.2, by rw [toPy_eqv x y h.1.1.1 h.1.1.2]; exact k.flat l rfl⟩
theorem isN_dec {x : D} {v : V} (r : RepB K F H x v) : decide (v = .non) = D.isNon x := by
  have f : ∀ {a : Addr}, decide (V.ref a = V.non) = false := fun {a} => decide_eq_false (fun h => nomatch h)
  rcases r with r | ⟨a, rfl, _, r⟩
  · cases x with
    | non => cases r; rfl
    | bl => cases r; exact decide_eq_false (fun h => nomatch h)
    | int => cases r; exact decide_eq_false (fun h => nomatch h)
    | tup => obtain ⟨a, vs, rfl, _⟩ := r; exact f
    | lst => obtain ⟨a, vs, rfl, _⟩ := r; exact f
    | dic t kvs => cases t <;> (obtain ⟨a, vs, rfl, _⟩ := r; exact f)
    | rng => obtain ⟨a, rfl, _⟩ := r; exact f
    | scr => obtain ⟨a, rfl, _⟩ := r; exact f
  · cases x <;> first | exact f | exact False.elim r
theorem is_ok : R2ok K (cmpD .is) (fun x y H Q => y = .non ∧ Q (.bl (decide (x = .non))) H) := by
  intro x y z F H v u Q hz l rx ry k
  obtain ⟨c, hc, rfl⟩ := Option.map_eq_some_iff.mp hz
  cases y <;> simp only [opC] at hc <;> cases hc
  exact ⟨ry.non, by rw [isN_dec rx]; exact k.flat l rfl⟩
theorem isnt_ok : R2ok K (cmpD .isnt) (fun x y H Q => y = .non ∧ Q (.bl (!decide (x = .non))) H) := by
  intro x y z F H v u Q hz l rx ry k
  obtain ⟨c, hc, rfl⟩ := Option.map_eq_some_iff.mp hz
  cases y <;> simp only [opC] at hc <;> cases hc
  exact ⟨ry.non, by rw [isN_dec rx]; exact k.flat l rfl⟩

/-! ### in -/
/-- x in a list or a tuple, of data -/
def rInA (K : PySem.W.Frag) (neg : Bool) : R2 := fun x y H Q => ∃ d ds, Dp K H x (D.toPy d) ∧ (Dp K H y (.list (D.toPyL ds)) ∨ Dp K H y (.tuple (D.toPyL ds))) ∧ D.plain d = true ∧ D.plainL ds = true ∧ D.depth d < 60 ∧ Q (.bl (if neg then !ds.any fun z => D.eqb z d else ds.any fun z => D.eqb z d)) H
theorem any_eqv {d : D} (hd : D.plain d = true) : ∀ {ds : List D}, D.plainL ds = true → ((D.toPyL ds).any fun y => PyData.eqv y (D.toPy d)) = ds.any fun z => D.eqb z d
  | [], _ => rfl
  | x :: xs, h => by
    simp only [D.plainL, Bool.and_eq_true] at h
    rw [D.toPyL, List.any_cons, List.any_cons, toPy_eqv x d h.1 hd, any_eqv hd h.2]
theorem op_inA (hu : X.A.units + 65 < cLine) : OpR X (compareOp .In) (rInA X.K false) := by
  intro pins s σ H x y v u Q I rx ry ⟨d, ds, hd, he, pd, pl, dp, q⟩
  obtain ⟨as, r1⟩ := Dp.reads I _ x v hd rx
  have h1 := toPy_depth d
  have fin : ∀ k, k = (ds.any fun z => D.eqb z d) → EP X pins σ Q (.bool k) s := fun k e => ⟨.bl _, H, I, by rw [e]; rfl, q⟩
  rcases he with he | he
  · obtain ⟨bs, r2⟩ := Dp.reads I _ y u he ry
    exact SeqAt.in_list_reads r2 r1 (toPyL_lay ds) (toPy_lay d) (by omega) (fin _ (any_eqv pd pl))
  · obtain ⟨bs, r2⟩ := Dp.reads I _ y u he ry
    exact SeqAt.in_tuple_reads r2 r1 (toPyL_lay ds) (toPy_lay d) (by omega) (fin _ (any_eqv pd pl))
theorem op_notinA (hu : X.A.units + 65 < cLine) : OpR X (compareOp .NotIn) (rInA X.K true) := by
  intro pins s σ H x y v u Q I rx ry ⟨d, ds, hd, he, pd, pl, dp, q⟩
  obtain ⟨as, r1⟩ := Dp.reads I _ x v hd rx
  have h1 := toPy_depth d
  have fin : ∀ k, k = (!ds.any fun z => D.eqb z d) → EP X pins σ Q (.bool k) s := fun k e => ⟨.bl _, H, I, by rw [e]; rfl, q⟩
  rcases he with he | he
  · obtain ⟨bs, r2⟩ := Dp.reads I _ y u he ry
    exact SeqAt.notIn_list_reads r2 r1 (toPyL_lay ds) (toPy_lay d) (by omega) (fin _ (by rw [any_eqv pd pl]))
  · obtain ⟨bs, r2⟩ := Dp.reads I _ y u he ry
    exact SeqAt.notIn_tuple_reads r2 r1 (toPyL_lay ds) (toPy_lay d) (by omega) (fin _ (by rw [any_eqv pd pl]))
/-! dicts: what a look-up gives -/
theorem ints_eqb : ∀ (ns ms : List Int), D.eqbL (ns.map .int) (ms.map .int) = decide (ns = ms)
  | [], [] => rfl
  | [], _ :: _ => by simp [D.eqbL]
  | _ :: _, [] => by simp [D.eqbL]
  | n :: ns, m :: ms => by
    simp only [List.map_cons, D.eqbL, D.eqb, ints_eqb ns ms]
    by_cases h : n = m <;> by_cases h' : ns = ms <;> simp [h, h']
theorem eqb_keyI {d e : D} {k k' : Key} (h : KeyI d k) (h' : KeyI e k') : D.eqb d e = decide (k = k') := by
  obtain ⟨i, rfl, rfl⟩ := h
  obtain ⟨j, rfl, rfl⟩ := h'
  simp [D.eqb]
theorem eqb_keyT {d e : D} {k k' : List Key} (h : KeyT d k) (h' : KeyT e k') : D.eqb d e = decide (k = k') := by
  obtain ⟨i, rfl, rfl, _⟩ := h
  obtain ⟨j, rfl, rfl, _⟩ := h'
  rw [D.eqb, ints_eqb]
  have inj : ∀ {a b : List Int}, a.map (Sum.inl : Int → Key) = b.map Sum.inl → a = b := fun {a b} h => List.map_inj_right (fun x y e => Sum.inl.inj e) |>.mp h
  by_cases e : i = j
  · subst e; simp
  · rw [decide_eq_false e, decide_eq_false fun z => e (inj z)]
/-- a look-up -/
def RelG (K : PySem.W.Frag) (F : Hp) : Option D → Option V → Prop
  | some d, some v => Rep K F d v
  | none, none => True
  | _, _ => False
theorem getK {k : D} {k' : Key} (hk : KeyI k k') : ∀ {kvs : List (D × D)} {ws : List (Key × V)}, RepK K F kvs ws → RelG K F (D.get kvs k) (valV ws k')
  | [], _, h => by cases h; trivial
  | (a, d) :: r, _, h => by
    obtain ⟨a', v, r', rfl, ha, hd, h⟩ := h
    have e := eqb_keyI ha hk
    unfold D.get valV
    rw [List.find?_cons, List.find?_cons]
    simp only [e]
    by_cases q : a' = k'
    · simp only [decide_eq_true q]; exact hd
    · simp only [decide_eq_false q]; exact getK hk h
theorem getT {k : D} {k' : List Key} (hk : KeyT k k') : ∀ {kvs : List (D × D)} {ws : List (List Key × V)}, RepT K F kvs ws → RelG K F (D.get kvs k) (valV ws k')
  | [], _, h => by cases h; trivial
  | (a, d) :: r, _, h => by
    obtain ⟨a', v, r', rfl, ha, hd, h⟩ := h
    have e := eqb_keyT ha hk
    unfold D.get valV
    rw [List.find?_cons, List.find?_cons]
    simp only [e]
    by_cases q : a' = k'
    · simp only [decide_eq_true q]; exact hd
    · simp only [decide_eq_false q]; exact getT hk h
theorem isKey_int {k : D} (h : isKey false k = true) : ∃ i, k = .int i := by
  cases k <;> simp [isKey] at h
  exact ⟨_, rfl⟩
theorem isKey_tup {k : D} (h : isKey true k = true) : ∃ ns : List Int, k = .tup (ns.map .int) := by
  cases k <;> simp [isKey] at h
  rename_i xs
  cases e : D.ints xs with
  | none => rw [e] at h; simp at h
  | some ns => exact ⟨ns, by rw [ints_eq e]⟩
/-- d[k], there or not -/
theorem dget_of {t : Bool} {kvs : List (D × D)} {k : D} {v u : V} (l : FLe F H) (hk : isKey t k = true) (rd : RepB K F H (.dic t kvs) v) (rk : RepB K F H k u) : ∃ a o, v = .ref a ∧ DGet H a u o ∧ RelG K F (D.get kvs k) o ∧ IsD H a := by
  cases t with
  | false =>
    obtain ⟨a, ws, rfl, e, r⟩ := rd.dicK l
    obtain ⟨i, rfl⟩ := isKey_int hk
    exact ⟨a, _, rfl, .inl ⟨ws, Sum.inl i, e, rk.int, rfl⟩, getK ⟨i, rfl, rfl⟩ r, .inl ⟨_, e⟩⟩
  | true =>
    obtain ⟨a, ws, rfl, e, r⟩ := rd.dicT l
    obtain ⟨ns, rfl⟩ := isKey_tup hk
    obtain ⟨b, vs, rfl, eb, rb, lz⟩ := rk.tup
    refine ⟨a, _, rfl, .inr ⟨ws, ns.map Sum.inl, b, e, rfl, ?_, rfl⟩, getT ⟨ns, rfl, rfl, by simpa using lz⟩ r, .inr ⟨_, e⟩⟩
    rw [l.tup eb, rb.ints, List.map_map]; rfl
theorem inA_of {x y : D} {c : Bool} {neg : Bool} {v u : V} (h : D.isIn x y = some c) (hy : ∀ t kvs, y ≠ .dic t kvs) (l : FLe F H) (rx : RepB K F H x v) (ry : RepB K F H y u) (k : Q (.bl (if neg then !c else c)) H) : rInA K neg v u H Q := by
  cases y <;> simp only [D.isIn] at h <;> try cases h
  · split at h <;> cases h
    rename_i ys hh
    simp only [Bool.and_eq_true, decide_eq_true_eq] at hh
    exact ⟨x, ys, repB_dp l hh.1.1.1 rx, .inr (repB_dp l (by simp [D.plain, hh.1.1.2]) ry), hh.1.1.1, hh.1.1.2, hh.1.2, k⟩
  · split at h <;> cases h
    rename_i ys hh
    simp only [Bool.and_eq_true, decide_eq_true_eq] at hh
    exact ⟨x, ys, repB_dp l hh.1.1.1 rx, .inl (repB_dp l (by simp [D.plain, hh.1.1.2]) ry), hh.1.1.1, hh.1.1.2, hh.1.2, k⟩
  · exact absurd rfl (hy _ _)
theorem pc_in (hu : X.A.units + 65 < cLine) (ha : PE X ma (tB X.K G a)) (hb : PE X mb (tB X.K G b)) : PC X .In ma mb (tC2 X.K G .isin a b) :=
  ((pc_of (op_inA hu) ha hb).or (pc_din (by omega) ha hb)).imp fun σ H Q ⟨F, env, d, ok, hd, k⟩ => by
    obtain ⟨x, hx, hd⟩ := Option.bind_eq_some_iff.mp (show (bo env a (ev G env a)).bind _ = some d from hd)
    obtain ⟨y, hy, hd⟩ := Option.bind_eq_some_iff.mp hd
    obtain ⟨c, hc, rfl⟩ := Option.map_eq_some_iff.mp hd
    have hc : D.isIn x y = some c := hc
    by_cases e : ∃ t kvs, y = .dic t kvs
    · obtain ⟨t, kvs, rfl⟩ := e
      simp only [D.isIn] at hc
      have hk : isKey t x = true := Decidable.byContradiction fun n => by rw [if_neg n] at hc; cases hc
      rw [if_pos hk] at hc
      cases hc
      refine .inr (runB ok hx fun F1 H1 v x1 o1 r1 => runB o1 hy fun F2 H2 u x2 o2 r2 => ?_)
      obtain ⟨a', o, rfl, g, rg, _⟩ := dget_of o2.le hk r2 (r1.ext x2)
      refine ⟨a', o, rfl, g, ?_⟩
      have : o.isSome = (D.get kvs x).isSome := by
        cases e1 : D.get kvs x <;> cases o <;> rw [e1] at rg <;> first | rfl | exact False.elim rg
      rw [this]
      exact k _ _ _ (x1.trans x2) o2.le rfl
    · refine .inl (runB ok hx fun F1 H1 v x1 o1 r1 => runB o1 hy fun F2 H2 u x2 o2 r2 => ?_)
      exact inA_of (neg := false) hc (fun t kvs z => e ⟨t, kvs, z⟩) o2.le (r1.ext x2) r2 (k _ _ _ (x1.trans x2) o2.le rfl)
theorem pc_notin (hu : X.A.units + 65 < cLine) (ha : PE X ma (tB X.K G a)) (hb : PE X mb (tB X.K G b)) : PC X .NotIn ma mb (tC2 X.K G .notin a b) :=
  ((pc_of (op_notinA hu) ha hb).or (pc_dnotin (by omega) ha hb)).imp fun σ H Q ⟨F, env, d, ok, hd, k⟩ => by
    obtain ⟨x, hx, hd⟩ := Option.bind_eq_some_iff.mp (show (bo env a (ev G env a)).bind _ = some d from hd)
    obtain ⟨y, hy, hd⟩ := Option.bind_eq_some_iff.mp hd
    obtain ⟨c0, hc0, rfl⟩ := Option.map_eq_some_iff.mp hd
    obtain ⟨c, hc, rfl⟩ := Option.map_eq_some_iff.mp (show (D.isIn x y).map not = some c0 from hc0)
    by_cases e : ∃ t kvs, y = .dic t kvs
    · obtain ⟨t, kvs, rfl⟩ := e
      simp only [D.isIn] at hc
      have hk : isKey t x = true := Decidable.byContradiction fun n => by rw [if_neg n] at hc; cases hc
      rw [if_pos hk] at hc
      cases hc
      refine .inr (runB ok hx fun F1 H1 v x1 o1 r1 => runB o1 hy fun F2 H2 u x2 o2 r2 => ?_)
      obtain ⟨a', o, rfl, g, rg, _⟩ := dget_of o2.le hk r2 (r1.ext x2)
      refine ⟨a', o, rfl, g, ?_⟩
      have : o.isSome = (D.get kvs x).isSome := by
        cases e1 : D.get kvs x <;> cases o <;> rw [e1] at rg <;> first | rfl | exact False.elim rg
      rw [this]
      exact k _ _ _ (x1.trans x2) o2.le rfl
    · refine .inl (runB ok hx fun F1 H1 v x1 o1 r1 => runB o1 hy fun F2 H2 u x2 o2 r2 => ?_)
      exact inA_of (neg := true) hc (fun t kvs z => e ⟨t, kvs, z⟩) o2.le (r1.ext x2) r2 (k _ _ _ (x1.trans x2) o2.le rfl)
end
end Rx
end

section
set_option Elab.async false
set_option linter.all false
set_option maxRecDepth 100000
set_option maxHeartbeats 1000000
set_option autoImplicit false
/-! RxSound2: chains, displays, subscripts, cuts, built-ins, calls. -/
namespace Rx
open PySem PySem.Spec PyProof.Rows L2

section
variable {X : Cx} {G : Gm} {K : PySem.W.Frag} {F H : Hp} {σ : St} {env : Env} {Q : VK} {e a b c : E} {me ma mb mc : Expr} {pos : Pos} {p q : C}
/-! ### a < b < c, a if p else b -/
theorem chain_run {o o' : CO} {r r' : R2} (hr : R2ok K (cmpD o) r) (hr' : R2ok K (cmpD o') r') {z : D} (ok : Ok K F H σ env) (hd : ev G env (.chn o o' a b c) = some z) (k : Want K F H z Q)
    (ha : ∀ {d}, ev G env a = some d → bo env a (ev G env a) = some d) (hb : ∀ {d}, ev G env b = some d → bo env b (ev G env b) = some d) (hc : ∀ {d}, ev G env c = some d → bo env c (ev G env c) = some d) :
    tChain r r' (tB K G a) (tB K G b) (tB K G c) σ H Q := by
  obtain ⟨x, hx, hd⟩ := Option.bind_eq_some_iff.mp (show (ev G env a).bind _ = some z from hd)
  obtain ⟨y, hy, hd⟩ := Option.bind_eq_some_iff.mp hd
  obtain ⟨g, hg, hd⟩ := Option.bind_eq_some_iff.mp hd
  refine runB ok (ha hx) fun F1 H1 v x1 o1 r1 => runB o1 (hb hy) fun F2 H2 u x2 o2 r2 => ?_
  refine hr x y (.bl g) F2 H2 v u _ (by show (opC o x y).map D.bl = _; rw [hg]; rfl) o2.le (r1.ext x2) r2 fun F3 H3 w x3 l3 r3 => ⟨g, r3, ?_⟩
  cases g with
  | true =>
    refine runB (o2.ext x3 l3) (hc (Option.bind_eq_some_iff.mp hd).choose_spec.1) fun F4 H4 t x4 o4 r4 => ?_
    refine hr' y _ z F4 H4 u t Q (Option.bind_eq_some_iff.mp hd).choose_spec.2 o4.le ((r2.ext x3).ext x4) r4 fun F' H' w' x5 l5 r5 => ?_
    exact k _ _ _ ((((x1.trans x2).trans x3).trans x4).trans x5) l5 r5
  | false => cases hd; exact k _ _ _ ((x1.trans x2).trans x3) l3 rfl
theorem bo_of {d : D} (h : ev G env a = some d) : bo env a (ev G env a) = some d := by
  cases a <;> try exact h
  rename_i i
  have h' : env.val i = some d := h
  show env.bor i = some d
  unfold Env.val at h'
  unfold Env.bor
  split at h'
  · rename_i z hz; rw [hz]; exact h'
  · cases h'
theorem r_chn {o o' : CO} {op op' : CmpOp} {r r' : R2} (ho : OpR X (compareOp op) r) (ho' : OpR X (compareOp op') r') (hr : R2ok K (cmpD o) r) (hr' : R2ok K (cmpD o') r') (ha : PE X ma (tB K G a)) (hb : PE X mb (tB K G b)) (hc : PE X mc (tB K G c))
    (hm : lastMarks [op, op'] [mb, mc] = false) : PE X (.Compare ma [op, op'] [mb, mc] pos) (tD K G (.chn o o' a b c)) :=
  (pe_chain ho ho' ha hb hc hm).imp fun σ H Q ⟨F, env, z, ok, hd, k⟩ => chain_run hr hr' ok hd k bo_of bo_of bo_of
theorem t_chn {o o' : CO} {op op' : CmpOp} {r r' : R2} (ho : OpR X (compareOp op) r) (ho' : OpR X (compareOp op') r') (hr : R2ok K (cmpD o) r) (hr' : R2ok K (cmpD o') r') (ha : PE X ma (tB K G a)) (hb : PE X mb (tB K G b)) (hc : PE X mc (tB K G c))
    (hm : lastMarks [op, op'] [mb, mc] = false) : PT X (.Compare ma [op, op'] [mb, mc] pos) (tT K G (.val (.chn o o' a b c))) :=
  (pt_chain ho ho' ha hb hc hm).imp fun σ H Q ⟨F, env, c', ok, hd, k⟩ => by
    obtain ⟨z, hz, hd⟩ := Option.bind_eq_some_iff.mp (show (ev G env (.chn o o' a b c)).bind _ = some c' from hd)
    refine chain_run hr hr' ok hz (fun F' H' v x l r => ?_) bo_of bo_of bo_of
    obtain ⟨x', _, hz⟩ := Option.bind_eq_some_iff.mp (show (ev G env a).bind _ = some z from hz)
    obtain ⟨y', _, hz⟩ := Option.bind_eq_some_iff.mp hz
    obtain ⟨g, _, hz⟩ := Option.bind_eq_some_iff.mp hz
    have : ∃ g', z = .bl g' := by
      cases g with
      | false => cases hz; exact ⟨_, rfl⟩
      | true =>
        obtain ⟨z', _, hz⟩ := Option.bind_eq_some_iff.mp hz
        obtain ⟨g', _, rfl⟩ := Option.map_eq_some_iff.mp hz
        exact ⟨_, rfl⟩
    obtain ⟨g', rfl⟩ := this
    cases hd
    exact ⟨_, r, k _ _ x l⟩
theorem r_ife (hp : PT X mc (tT K G p)) (ha : PE X ma (tD K G a)) (hb : PE X mb (tD K G b)) : PE X (.IfExp mc ma mb pos) (tD K G (.ife p a b)) := (pe_ifExp hp ha hb).imp fun σ H Q ⟨F, env, d, o, hd, k⟩ => by
  obtain ⟨x, hx, hd⟩ := Option.bind_eq_some_iff.mp (show (ts G env p).bind _ = some d from hd)
  refine runT o hx fun F1 H1 x1 o1 => ?_
  cases x with
  | true => exact runD o1 hd fun F2 H2 u x2 o2 r2 => k _ _ _ (x1.trans x2) o2.le r2
  | false => exact runD o1 hd fun F2 H2 u x2 o2 r2 => k _ _ _ (x1.trans x2) o2.le r2

/-! ### argument lists -/
variable {es : List E} {mes : List Expr}
theorem a_nil : PA X [] (tL K G []) := pa_nil.imp fun σ H Q ⟨F, env, d, o, hd, k⟩ => by
  cases hd; exact k _ _ _ (.refl F H) o.le rfl
theorem a_cons (ha : PE X ma (tD K G a)) (hr : PA X mes (tL K G es)) (hs : starEach (ma :: mes) X.env = (false, eval ma X.env) :: starEach mes X.env) : PA X (ma :: mes) (tL K G (a :: es)) := (pa_cons ha hr hs).imp fun σ H Q ⟨F, env, d, o, hd, k⟩ => by
  obtain ⟨x, hx, hd⟩ := Option.bind_eq_some_iff.mp (show (ev G env a).bind _ = some d from hd)
  obtain ⟨xs, hxs, rfl⟩ := Option.map_eq_some_iff.mp hd
  exact runD o hx fun F1 H1 v x1 o1 r1 => ⟨F1, env, xs, o1, hxs, fun F2 H2 vs x2 l2 r2 => k _ _ _ (x1.trans x2) l2 ⟨v, vs, rfl, r1.mono x2.f, r2⟩⟩
theorem b_nil : PA X [] (tLB K G []) := pa_nil.imp fun σ H Q ⟨F, env, d, o, hd, k⟩ => by
  cases hd; exact k _ _ _ (.refl F H) o.le rfl
theorem b_cons (ha : PE X ma (tB K G a)) (hr : PA X mes (tLB K G es)) (hs : starEach (ma :: mes) X.env = (false, eval ma X.env) :: starEach mes X.env) : PA X (ma :: mes) (tLB K G (a :: es)) := (pa_cons ha hr hs).imp fun σ H Q ⟨F, env, d, o, hd, k⟩ => by
  obtain ⟨x, hx, hd⟩ := Option.bind_eq_some_iff.mp (show (bo env a (ev G env a)).bind _ = some d from hd)
  obtain ⟨xs, hxs, rfl⟩ := Option.map_eq_some_iff.mp hd
  exact runB o hx fun F1 H1 v x1 o1 r1 => ⟨F1, env, xs, o1, hxs, fun F2 H2 vs x2 l2 r2 => k _ _ _ (x1.trans x2) l2 ⟨v, vs, rfl, r1.ext x2, r2⟩⟩
theorem runL {ds : List D} {Q : List V → Hp → Prop} (o : Ok K F H σ env) (h : evL G env es = some ds) (k : ∀ F' H' vs, Ext F H F' H' → Ok K F' H' σ env → RepL K F' ds vs → Q vs H') : tL K G es σ H Q :=
  ⟨F, env, ds, o, h, fun F' H' v x l r => k F' H' v x (o.ext x l) r⟩
theorem runLB {ds : List D} {Q : List V → Hp → Prop} (o : Ok K F H σ env) (h : evB G env es = some ds) (k : ∀ F' H' vs, Ext F H F' H' → Ok K F' H' σ env → RepBL K F' H' ds vs → Q vs H') : tLB K G es σ H Q :=
  ⟨F, env, ds, o, h, fun F' H' v x l r => k F' H' v x (o.ext x l) r⟩
/-- one argument -/
theorem b_one (ha : PE X ma (tB K G a)) (hs : starEach [ma] X.env = [(false, eval ma X.env)]) : PA X [ma] (tLB K G [a]) := b_cons ha b_nil hs

/-! ### displays -/
theorem r_tup {x1 : Nat} (h : PA X mes (tL K G es)) : PE X (.Tuple mes x1 pos) (tD K G (.tup es)) := (pe_tup h).imp fun σ H Q ⟨F, env, d, o, hd, k⟩ => by
  obtain ⟨x, hx, hd⟩ := Option.bind_eq_some_iff.mp (show (evL G env es).bind _ = some d from hd)
  split at hd <;> cases hd
  rename_i hl
  refine runL o hx fun F1 H1 vs x1 o1 r1 => ⟨by rw [r1.length, line_eq]; exact hl, fun p n => ?_⟩
  exact Want.tup (fun F' H' v x2 => k F' H' v (x1.trans x2)) o1.le r1 hl n
theorem r_lst (h : PA X mes (tL K G es)) : PE X (.List mes pos) (tD K G (.lst es)) := (pe_lst h).imp fun σ H Q ⟨F, env, d, o, hd, k⟩ => by
  obtain ⟨x, hx, hd⟩ := Option.bind_eq_some_iff.mp (show (evL G env es).bind _ = some d from hd)
  unfold fits at hd
  split at hd <;> cases hd
  rename_i hl
  refine runL o hx fun F1 H1 vs x1 o1 r1 => ⟨by rw [r1.length, line_eq]; exact hl, fun p n => ?_⟩
  exact Want.lst (fun F' H' v x2 => k F' H' v (x1.trans x2)) o1.le r1 hl n

/-! ### a[i] -/
theorem sub_dic {t : Bool} {kvs : List (D × D)} {y z : D} {v u : V} (hz : opSub (.dic t kvs) y = some z) (l : FLe F H) (rx : RepB K F H (.dic t kvs) v) (ry : RepB K F H y u) (k : Want K F H z Q) : ∃ a w, v = .ref a ∧ DGet H a u (some w) ∧ Q w H := by
  have hz : (if isKey t y = true then D.get kvs y else none) = some z := by cases y <;> exact hz
  have hk : isKey t y = true := Decidable.byContradiction fun n => by rw [if_neg n] at hz; cases hz
  rw [if_pos hk] at hz
  obtain ⟨a, o, rfl, g, rg, _⟩ := dget_of l hk rx ry
  rw [hz] at rg
  cases o with
  | none => exact False.elim rg
  | some w => exact ⟨a, w, rfl, g, k.flat l rg⟩
theorem at_of {ds : List D} {vs : List V} {i : Int} {z : D} (r : RepL K F ds vs) (h : Rx.atI ds i = some z) : ∃ w, L2.atI vs i = some w ∧ Rep K F z w := by
  obtain ⟨j, hj, hz⟩ := Option.bind_eq_some_iff.mp h
  obtain ⟨w, e, rw'⟩ := r.get hz
  exact ⟨w, Option.bind_eq_some_iff.mpr ⟨j, by rw [r.length]; exact hj, e⟩, rw'⟩
theorem sub_seq {x y z : D} {v u : V} (hz : opSub x y = some z) (hx : ∀ t kvs, x ≠ .dic t kvs) (l : FLe F H) (rx : RepB K F H x v) (ry : RepB K F H y u) (k : Want K F H z Q) : rIxL K v u H Q ∨ rIxT K v u H Q := by
  cases x <;> try (exact absurd rfl (hx _ _))
  all_goals (cases y <;> simp only [opSub] at hz <;> try cases hz)
  · obtain ⟨a, vs, rfl, ea, ra, la⟩ := rx.tup
    obtain ⟨w, hw, rw'⟩ := at_of ra hz
    exact .inr ⟨a, vs, _, w, rfl, ry.int, .of (l.tup ea), hw, k.flat l rw'⟩
  · obtain ⟨a, vs, rfl, ea, ra, la⟩ := rx.lst l
    obtain ⟨w, hw, rw'⟩ := at_of ra hz
    exact .inl ⟨a, vs, _, w, rfl, ry.int, .of ea, hw, k.flat l rw'⟩
  · obtain ⟨a, rfl, ea, la⟩ := rx.scr l
    obtain ⟨w, hw, rw'⟩ := at_of (RepL.ofInts _) hz
    exact .inl ⟨a, _, _, w, rfl, ry.int, ea, hw, k.flat l rw'⟩
theorem dic_or (x : D) : (∃ t kvs, x = .dic t kvs) ∨ ∀ t kvs, x ≠ .dic t kvs := by
  by_cases e : ∃ t kvs, x = .dic t kvs
  · exact .inl e
  · exact .inr fun t kvs z => e ⟨t, kvs, z⟩
theorem r_sub (hu : X.A.units + 1 < cLine) (ha : PE X ma (tB X.K G a)) (hb : PE X mb (tB X.K G b)) (hs : PlainIx mb) : PE X (.Subscript ma mb pos) (tD X.K G (.sub a b)) :=
  ((pe_ix (ix_list.or ix_tup) ha hb hs).or (pe_dget hu ha hb hs)).imp fun σ H Q ⟨F, env, z, ok, hd, k⟩ => by
    obtain ⟨x, hx, hd⟩ := Option.bind_eq_some_iff.mp (show (bo env a (ev G env a)).bind _ = some z from hd)
    obtain ⟨y, hy, hd⟩ := Option.bind_eq_some_iff.mp hd
    have hy := bo_of hy
    rcases dic_or x with ⟨t, kvs, rfl⟩ | e
    · exact .inr (runB ok hx fun F1 H1 v x1 o1 r1 => runB o1 hy fun F2 H2 u x2 o2 r2 => sub_dic hd o2.le (r1.ext x2) r2 fun F' H' w x3 => k F' H' w ((x1.trans x2).trans x3))
    · exact .inl (runB ok hx fun F1 H1 v x1 o1 r1 => runB o1 hy fun F2 H2 u x2 o2 r2 => sub_seq hd e o2.le (r1.ext x2) r2 fun F' H' w x3 => k F' H' w ((x1.trans x2).trans x3))

/-! ### cuts -/
theorem sIx_cut (n d : Nat) (i : Int) : HT.sIx n d (some i) = cutN n i := by
  have := HT.clip_eq i n d
  unfold cutN
  split
  · rename_i h; rw [if_pos h] at this; omega
  · rename_i h; rw [if_neg h] at this; omega
theorem cutN_le (n : Nat) (i : Int) (h : 0 ≤ i ∨ -(n : Int) ≤ 0) : cutN n i ≤ n := by
  unfold cutN; split <;> omega
theorem cut_lo (vs : List V) (i : Int) : cutV vs (some i) none = vs.drop (cutN vs.length i) := by
  unfold cutV
  rw [sIx_cut, HT.sIx_none, List.take_of_length_le (by simp)]
theorem cut_hi (vs : List V) (i : Int) : cutV vs none (some i) = vs.take (cutN vs.length i) := by
  unfold cutV
  rw [sIx_cut, HT.sIx_none, List.drop_zero, Nat.sub_zero]
abbrev rCut (K : PySem.W.Frag) : V → Option Int → Option Int → Hp → VK → Prop := fun x lo hi H Q => rSlL K x lo hi H Q ∨ rSlA K x lo hi H Q
theorem lo_ok {x : D} {i : Int} {z : D} {v : V} (hz : opLo x (.int i) = some z) (l : FLe F H) (rx : RepB K F H x v) (k : Want K F H z Q) : rCut K v (some i) none H Q := by
  cases x <;> simp only [opLo] at hz <;> try cases hz
  · rename_i xs
    obtain ⟨a, vs, rfl, ea, ra, la⟩ := rx.tup
    have hl := ra.length
    refine .inr ⟨a, vs, rfl, .of (l.tup ea), fun e => ?_, fun _ p n => ?_⟩
    · have e0 : cutN xs.length i = 0 := by have := e.1; rw [sIx_cut, hl] at this; exact this
      rw [e0, List.drop_zero] at k
      exact k.flat l ⟨a, vs, rfl, ea, ra, la⟩
    · rw [cut_lo, hl]
      exact k.tup l (ra.drop _) (by rw [List.length_drop]; omega) n
  · rename_i xs
    obtain ⟨a, vs, rfl, ea, ra, la⟩ := rx.lst l
    refine .inl ⟨a, vs, rfl, .of ea, fun p n => ?_⟩
    rw [cut_lo, ra.length]
    exact k.lst l (ra.drop _) (by rw [List.length_drop]; omega) n
theorem hi_ok {x : D} {i : Int} {z : D} {v : V} (hz : opHi x (.int i) = some z) (l : FLe F H) (rx : RepB K F H x v) (k : Want K F H z Q) : rCut K v none (some i) H Q := by
  cases x <;> simp only [opHi] at hz <;> try cases hz
  · rename_i xs
    obtain ⟨a, vs, rfl, ea, ra, la⟩ := rx.tup
    have hl := ra.length
    refine .inr ⟨a, vs, rfl, .of (l.tup ea), fun e => ?_, fun _ p n => ?_⟩
    · have e0 : cutN xs.length i = xs.length := by have := e.2; rw [sIx_cut, hl] at this; exact this
      rw [e0, List.take_length] at k
      exact k.flat l ⟨a, vs, rfl, ea, ra, la⟩
    · rw [cut_hi, hl]
      exact k.tup l (ra.take _) (by rw [List.length_take]; omega) n
  · rename_i xs
    obtain ⟨a, vs, rfl, ea, ra, la⟩ := rx.lst l
    refine .inl ⟨a, vs, rfl, .of ea, fun p n => ?_⟩
    rw [cut_hi, ra.length]
    exact k.lst l (ra.take _) (by rw [List.length_take]; omega) n
theorem r_slo {p2 : Pos} (ha : PE X ma (tB X.K G a)) (hb : PE X mb (tD X.K G b)) : PE X (.Subscript ma (.Slice (some mb) none none p2) pos) (tD X.K G (.slo a b)) :=
  (pe_slice (sl_list.or sl_tupA) ha (po_some hb) po_none).imp fun σ H Q ⟨F, env, z, ok, hd, k⟩ => by
    obtain ⟨x, hx, hd⟩ := Option.bind_eq_some_iff.mp (show (bo env a (ev G env a)).bind _ = some z from hd)
    obtain ⟨y, hy, hd⟩ := Option.bind_eq_some_iff.mp hd
    obtain ⟨i, rfl⟩ : ∃ i, y = .int i := by cases y <;> first | exact ⟨_, rfl⟩ | (cases x <;> cases hd)
    exact runB ok hx fun F1 H1 v x1 o1 r1 => runD o1 hy fun F2 H2 u x2 o2 r2 => ⟨i, r2, lo_ok hd o2.le (r1.ext x2) fun F' H' w x3 => k F' H' w ((x1.trans x2).trans x3)⟩
theorem r_shi {p2 : Pos} (ha : PE X ma (tB X.K G a)) (hb : PE X mb (tD X.K G b)) : PE X (.Subscript ma (.Slice none (some mb) none p2) pos) (tD X.K G (.shi a b)) :=
  (pe_slice (sl_list.or sl_tupA) ha po_none (po_some hb)).imp fun σ H Q ⟨F, env, z, ok, hd, k⟩ => by
    obtain ⟨x, hx, hd⟩ := Option.bind_eq_some_iff.mp (show (bo env a (ev G env a)).bind _ = some z from hd)
    obtain ⟨y, hy, hd⟩ := Option.bind_eq_some_iff.mp hd
    obtain ⟨i, rfl⟩ : ∃ i, y = .int i := by cases y <;> first | exact ⟨_, rfl⟩ | (cases x <;> cases hd)
    exact runB ok hx fun F1 H1 v x1 o1 r1 => runD o1 hy fun F2 H2 u x2 o2 r2 => ⟨i, r2, hi_ok hd o2.le (r1.ext x2) fun F' H' w x3 => k F' H' w ((x1.trans x2).trans x3)⟩

/-! ### built-ins -/
/-- r asks of the one argument what f says -/
def B1ok (K : PySem.W.Frag) (f : B1) (r : List V → Hp → VK → Prop) : Prop := ∀ (x z : D) (F H : Hp) (v : V) (Q : VK), opU f x = some z → FLe F H → RepB K F H x v → Want K F H z Q → r [v] H Q
theorem b1_run {f : B1} {r : List V → Hp → VK → Prop} (hr : B1ok K f r) {d : D} (ok : Ok K F H σ env) (hd : ev G env (.b1 f a) = some d) (k : Want K F H d Q) : tCB r (tLB K G [a]) σ H Q := by
  obtain ⟨x, hx, hd⟩ := Option.bind_eq_some_iff.mp (show (bo env a (ev G env a)).bind _ = some d from hd)
  refine runLB ok (show (bo env a (ev G env a)).bind _ = some [x] by rw [hx]; rfl) fun F1 H1 vs x1 o1 r1 => ?_
  obtain ⟨v, r', rfl, r1, e⟩ := r1
  cases e
  exact hr x d F1 H1 v Q hd o1.le r1 fun F' H' w x2 => k F' H' w (x1.trans x2)
theorem r_b1 {f : B1} {id : String} {x : Str} {r : List V → Hp → VK → Prop} {pp : Pos} (hc : CallR X (.builtin id) r) (hr : B1ok X.K f r) (hg : Gl X x) (hm : X.mg x = none) (hv : bootBuiltins x = some (.builtin id)) (ha : PE X ma (tB X.K G a))
    (hs : starEach [ma] X.env = [(false, eval ma X.env)]) (hn : x ≠ "__name__" := by decide) (hdb : (x == ("__debug__" : Str)) = false := by decide) : PE X (.Call (.Name x pp) [ma] [] pos) (tD X.K G (.b1 f a)) :=
  (pe_callB hc hg hm hv (b_one ha hs) hn hdb hs).imp fun σ H Q ⟨F, env, z, ok, hd, k⟩ => b1_run hr ok hd k
theorem r_b1T {f : B1} {id : String} {x : Str} {r : List V → Hp → VK → Prop} {pp : Pos} (hc : CallR X (.type id) r) (hr : B1ok X.K f r) (hg : Gl X x) (hm : X.mg x = none) (hv : bootBuiltins x = some (.type id)) (ha : PE X ma (tB X.K G a))
    (hs : starEach [ma] X.env = [(false, eval ma X.env)]) (hn : x ≠ "__name__" := by decide) (hdb : (x == ("__debug__" : Str)) = false := by decide) : PE X (.Call (.Name x pp) [ma] [] pos) (tD X.K G (.b1 f a)) :=
  (pe_callTy hc hg hm hv (b_one ha hs) hn hdb hs).imp fun σ H Q ⟨F, env, z, ok, hd, k⟩ => b1_run hr ok hd k
theorem len_ok : B1ok K .len (fun xs H Q => ∃ x n, xs = [x] ∧ LenV K x H n ∧ Q (.int n) H) := by
  intro x z F H v Q hz l rx k
  cases x <;> simp only [opU] at hz <;> try cases hz
  · obtain ⟨a, vs, rfl, ea, ra, la⟩ := rx.tup
    exact ⟨_, _, rfl, .inr ⟨vs, .of (l.tup ea), rfl⟩, by rw [ra.length]; exact k.flat l rfl⟩
  · obtain ⟨a, vs, rfl, ea, ra, la⟩ := rx.lst l
    exact ⟨_, _, rfl, .inl ⟨vs, .of ea, rfl⟩, by rw [ra.length]; exact k.flat l rfl⟩
  · obtain ⟨a, rfl, ea, la⟩ := rx.scr l
    exact ⟨_, _, rfl, .inl ⟨_, ea, rfl⟩, by rw [List.length_map]; exact k.flat l rfl⟩
theorem int_ok : B1ok K .int (fun xs H Q => (∃ i, xs = [.int i] ∧ Q (.int i) H) ∨ ∃ k, xs = [.bl k] ∧ Q (.int (if k then 1 else 0)) H) := by
  intro x z F H v Q hz l rx k
  cases x <;> simp only [opU] at hz <;> try cases hz
  · exact .inr ⟨_, by rw [rx.bl], k.flat l rfl⟩
  · exact .inl ⟨_, by rw [rx.int], k.flat l rfl⟩
theorem seq_some {x : D} {xs : List D} (h : x.seq? = some xs) : x = .tup xs ∨ x = .lst xs := by
  cases x <;> simp only [D.seq?] at h <;> cases h
  · exact .inl rfl
  · exact .inr rfl
theorem tuple_ok : B1ok K .tuple (fun xs H Q => ∃ p ys, xs = [.ref p] ∧ ((SqL K H p ys ∧ ∀ l, H l = none → Q (.ref l) (upd H l (.tup ys))) ∨ (SqT K H p ys ∧ Q (.ref p) H))) := by
  intro x z F H v Q hz l rx k
  obtain ⟨xs, hx, rfl⟩ := Option.map_eq_some_iff.mp hz
  rcases seq_some hx with rfl | rfl
  · obtain ⟨a, vs, rfl, ea, ra, la⟩ := rx.tup
    exact ⟨a, vs, rfl, .inr ⟨.of (l.tup ea), k.flat l ⟨a, vs, rfl, ea, ra, la⟩⟩⟩
  · obtain ⟨a, vs, rfl, ea, ra, la⟩ := rx.lst l
    exact ⟨a, vs, rfl, .inl ⟨.of ea, fun p n => k.tup l ra la n⟩⟩
theorem list_ok : B1ok K .list (fun xs H Q => ∃ p ys, xs = [.ref p] ∧ (SqL K H p ys ∨ SqT K H p ys) ∧ ∀ l, H l = none → Q (.ref l) (upd H l (.lst ys))) := by
  intro x z F H v Q hz l rx k
  obtain ⟨xs, hx, rfl⟩ := Option.map_eq_some_iff.mp hz
  rcases seq_some hx with rfl | rfl
  · obtain ⟨a, vs, rfl, ea, ra, la⟩ := rx.tup
    exact ⟨a, vs, rfl, .inr (.of (l.tup ea)), fun p n => k.lst l ra la n⟩
  · obtain ⟨a, vs, rfl, ea, ra, la⟩ := rx.lst l
    exact ⟨a, vs, rfl, .inl (.of ea), fun p n => k.lst l ra la n⟩
theorem all_ok : B1ok K .all (rAll K) := by
  intro x z F H v Q hz l rx k
  cases x <;> simp only [opU] at hz <;> try cases hz
  obtain ⟨bs, hb, rfl⟩ := Option.map_eq_some_iff.mp hz
  obtain rfl := bools_eq hb
  obtain ⟨a, vs, rfl, ea, ra, la⟩ := rx.lst l
  exact ⟨a, bs, rfl, by rw [← ra.bls]; exact .of ea, k.flat l rfl⟩
theorem any_ok : B1ok K .any (rAny K) := by
  intro x z F H v Q hz l rx k
  cases x <;> simp only [opU] at hz <;> try cases hz
  obtain ⟨bs, hb, rfl⟩ := Option.map_eq_some_iff.mp hz
  obtain rfl := bools_eq hb
  obtain ⟨a, vs, rfl, ea, ra, la⟩ := rx.lst l
  exact ⟨a, bs, rfl, by rw [← ra.bls]; exact .of ea, k.flat l rfl⟩
/-- two ints -/
theorem b2_run {f : B2} {g : Int → Int → Int} (hf : ∀ x y z, opU2 f x y = some z → ∃ i j, x = .int i ∧ y = .int j ∧ z = .int (g i j)) {d : D} (ok : Ok K F H σ env) (hd : ev G env (.b2 f a b) = some d) (k : Want K F H d Q) :
    tCB (fun xs H Q => ∃ i j, xs = [.int i, .int j] ∧ Q (.int (g i j)) H) (tLB K G [a, b]) σ H Q := by
  obtain ⟨x, hx, hd⟩ := Option.bind_eq_some_iff.mp (show (bo env a (ev G env a)).bind _ = some d from hd)
  obtain ⟨y, hy, hd⟩ := Option.bind_eq_some_iff.mp hd
  obtain ⟨i, j, rfl, rfl, rfl⟩ := hf x y d hd
  refine runLB ok (show (bo env a (ev G env a)).bind _ = some [.int i, .int j] by rw [hx]; show ((bo env b (ev G env b)).bind _).map _ = _; rw [bo_of hy]; rfl) fun F1 H1 vs x1 o1 r1 => ?_
  obtain ⟨v, r', rfl, r1, u, r'', rfl, r2, e⟩ := r1
  cases e
  exact ⟨i, j, by rw [r1.int, r2.int], k _ _ _ x1 o1.le rfl⟩
theorem r_max2 {pp : Pos} (hc : X.calm = true) (hg : Gl X "max") (hm : X.mg "max" = none) (ha : PE X ma (tB X.K G a)) (hb : PE X mb (tB X.K G b)) (hs : starEach [ma, mb] X.env = (false, eval ma X.env) :: starEach [mb] X.env) (hs2 : starEach [mb] X.env = [(false, eval mb X.env)]) :
    PE X (.Call (.Name "max" pp) [ma, mb] [] pos) (tD X.K G (.b2 .max a b)) :=
  (pe_callB (call_max2 hc) hg hm boot_max (b_cons ha (b_one hb hs2) hs) (by decide) (by decide) hs (by rw [hs2]; rfl)).imp fun σ H Q ⟨F, env, z, ok, hd, k⟩ =>
    b2_run (g := fun i j => if j > i then j else i) (fun x y z h => by cases x <;> cases y <;> simp only [opU2] at h <;> cases h; exact ⟨_, _, rfl, rfl, rfl⟩) ok hd k
theorem r_min2 {pp : Pos} (hc : X.calm = true) (hg : Gl X "min") (hm : X.mg "min" = none) (ha : PE X ma (tB X.K G a)) (hb : PE X mb (tB X.K G b)) (hs : starEach [ma, mb] X.env = (false, eval ma X.env) :: starEach [mb] X.env) (hs2 : starEach [mb] X.env = [(false, eval mb X.env)]) :
    PE X (.Call (.Name "min" pp) [ma, mb] [] pos) (tD X.K G (.b2 .min a b)) :=
  (pe_callB (call_min2 hc) hg hm boot_min (b_cons ha (b_one hb hs2) hs) (by decide) (by decide) hs (by rw [hs2]; rfl)).imp fun σ H Q ⟨F, env, z, ok, hd, k⟩ =>
    b2_run (g := fun i j => if j < i then j else i) (fun x y z h => by cases x <;> cases y <;> simp only [opU2] at h <;> cases h; exact ⟨_, _, rfl, rfl, rfl⟩) ok hd k
end
end Rx
end

section
set_option Elab.async false
set_option linter.all false
set_option maxRecDepth 100000
set_option maxHeartbeats 1000000
set_option autoImplicit false
/-! RxWalk: what a for or a comprehension walks. -/
namespace Rx
open PySem PySem.Spec PyProof.Rows L2

/-! ### enumerate(a tuple) -/
section
open Sem (wp)
open AutoSeq1 (wpAny_loadPart')
theorem new_enum1 {v : Value} {o : Obj} {P : Heap → Prop} (B : Begins v o P) :
    Meets (Builtin.«enumerate.__new__» ⟨[.type "enumerate", v], []⟩) (fun _ R s => P s.heap ∧
      R (.ok (.ret (.ref (s.heap.push o).objs.size))) { s with heap := (s.heap.push o).push { cls := .type "enumerate", data := .fields #[.none, .bool false, .ref s.heap.objs.size, rawInt 0, .none, .none] } }) :=
  .of_wp fun prog w A R s h => by
    obtain ⟨hp, g, d, tk, os⟩ := s; obtain ⟨h1, h⟩ := h
    have hsub := sub_enumerate
    have q1 : ∀ {A' : Around} {E : Value → Shared → Prop} {Q : Value → Shared → Prop}, Q (.ref hp.objs.size) ⟨hp.push o, g, d, tk, os⟩ → wpAny (model prog w) A' (pyIter v) Q E ⟨hp, g, d, tk, os⟩ :=
      fun q => B.iter prog w _ _ ⟨hp, g, d, tk, os⟩ _ h1 q
    wp_walk using q1
    refine wpAny_stack_any fun st => wpAny_pure ?_
    split
    · rename_i c _ _ _ _ _
      cases (c == Value.type "enumerate") <;> (wp_walk using q1; exact ⟨_, rfl, h⟩)
    · wp_walk using q1
      exact ⟨_, rfl, h⟩
theorem begin_enum1 {prog : Program} {w : World} {A : Around} {E : Value → Shared → Prop} {s : Shared} {v : Value} {o : Obj} {P : Heap → Prop} {Q : Value → Shared → Prop} (B : Begins v o P) (h1 : P s.heap)
    (h : ∀ h', IsEnum h' (s.heap.objs.size + 1) s.heap.objs.size 0 .none → h'.get? s.heap.objs.size = some o → h'.objs.size = s.heap.objs.size + 2 →
      (∀ b ob, s.heap.get? b = some ob → h'.get? b = some ob) → Q (.ref (s.heap.objs.size + 1)) { s with heap := h' }) :
    wpAny (model prog w) A (call (.type "enumerate") [v]) Q E s := by
  refine callType_new F.called_enumerate (by decide) (F.typeCall_enumerate_1 _) (F.newCall_enumerate_1 _) (fun obj => F.args_object_init_2 obj _) F.entry_enumerate_new (new_enum1 B) ⟨h1, ?_⟩
  have hz : (s.heap.push o).objs.size = s.heap.objs.size + 1 := Heap.size_push ..
  show _ ∧ _
  rw [hz]
  have he : IsEnum ((s.heap.push o).push { cls := .type "enumerate", data := .fields #[.none, .bool false, .ref s.heap.objs.size, rawInt 0, .none, .none] }) (s.heap.objs.size + 1) s.heap.objs.size 0 .none := by
    have := Heap.get?_push_size (s.heap.push o) (o := { cls := .type "enumerate", data := .fields #[.none, .bool false, .ref s.heap.objs.size, rawInt 0, .none, .none] }) rfl
    rw [hz] at this; exact this
  refine ⟨⟨_, he, rfl⟩, h _ he (Heap.get?_push_of_some _ (Heap.get?_push_size _ B.free)) (by rw [Heap.size_push, hz]) fun b ob x => Heap.get?_push_of_some _ (Heap.get?_push_of_some _ x)⟩
end
/-- the tuple at a, each item with its number -/
def IteT (K : PySem.W.Frag) (a : Addr) : It :=
  ⟨fun i H => ∃ (xs : List V) (x : V), SqT K H a xs ∧ xs[i]? = some x, fun i H v H' => ∃ T x, v = .ref T ∧ H T = none ∧ H' = upd H T (.tup [.int (i : Nat), x]) ∧ ∀ xs, SqT K H a xs → xs[i]? = some x, fun i H => ∃ xs : List V, SqT K H a xs ∧ xs.length = i⟩
theorem tupIter_ne {h : Heap} {it a : Addr} {i : Nat} {items : Array Value} (x : h.IsTupleIter it a i) (y : h.IsTuple a items) : a ≠ it := by
  intro e
  subst e
  obtain ⟨o, e1, _, d1⟩ := x
  obtain ⟨o', e2, _, n, d2⟩ := y
  rw [e1] at e2; cases e2
  rw [d1] at d2; cases d2
theorem turn_enumT {P : Program} {w : World} {K : PySem.W.Frag} {elts : List Expr} {kk : Nat} {tpos : Pos} (a e it : Addr) :
    Turn P w K (.Tuple elts kk tpos) (IteT K a) [e, it] e (fun i h => (∃ old, IsEnum h e it ((i : Nat) : Int) old) ∧ h.IsTupleIter it a i ∧ e ≠ it) where
  mem := by simp
  obj := fun i h st b hb => by
    obtain ⟨⟨old, he⟩, ⟨o, ho, hc, hd⟩, _⟩ := st
    rcases (by simpa using hb : b = e ∨ b = it) with z | z
    · rw [z]; exact ⟨_, he, fun v q => nomatch q⟩
    · rw [z]; exact ⟨o, ho, fun v q => by rw [hd] at q; cases q⟩
  keep := fun i h h' st k => let ⟨⟨old, he⟩, hi, hne⟩ := st; ⟨⟨old, k e (by simp) _ he⟩, hi.at fun o q => k it (by simp) o q, hne⟩
  item := by
    intro X hP hw hK hc i pins s σ H E I hf st hg
    subst hP hw hK
    obtain ⟨⟨old, he⟩, hit, hne⟩ := st
    obtain ⟨xs, x, hq, hx⟩ := hg
    obtain ⟨its, rv, p, hz⟩ := I.tuple hq
    obtain ⟨u, hu, ru⟩ := rv.get hx
    have hel : e < s.heap.objs.size := Heap.lt_size he
    have hil : it < s.heap.objs.size := by obtain ⟨_, q, _⟩ := hit; exact Heap.lt_size q
    have ht : s.heap.IsTuple a its.toArray := p
    have hai := tupIter_ne hit ht
    have hae : e ≠ a := fun z => by
      subst z
      obtain ⟨o', e2, _, n, d2⟩ := ht
      rw [he] at e2; cases e2
      cases d2
    have hlen : i < its.toArray.size := by
      rw [List.size_toArray]
      exact (List.getElem?_eq_some_iff.mp hu).1
    refine wpAny_pyNext_enum_itemC (Draws.tuple (A := X.A.in1) (I.ok.hd hc) it a hai its.toArray) he ⟨hit, ht⟩ hlen hne (by simp [hne, hae]) fun y h' tk hy ho hst hT hsz hk => ?_
    obtain rfl : y = u := by
      have : its.toArray[i]? = some u := by simpa using hu
      rw [this] at hy; exact (Option.some.inj hy).symm
    refine ⟨_, rfl, wpAny_letOwnedTupleGo_enum (s := { s with heap := h', toks := tk + 1 }) ho fun h'' he' sb => ?_⟩
    have hT2 : h''.get? s.heap.objs.size = some { cls := .type "tuple", data := .seq #[.int i tk, y] } := (sb.2 _ (Nat.ne_of_gt hel)).trans hT
    have new : ObjOk X.prog X.w (upd H s.heap.objs.size (.tup [.int (i : Nat), x])) h'' s.heap.objs.size (.tup [.int (i : Nat), x]) :=
      ⟨by show 2 ≤ sizeLine; decide, [.int i tk, y], .cons ⟨_, rfl⟩ (.cons ru .nil), ⟨_, hT2, rfl, _, rfl⟩⟩
    have I1 : Inv X pins σ (upd H s.heap.objs.size (.tup [.int (i : Nat), x])) { s with heap := h'', toks := tk + 1 } :=
      I.turnedNew (ch := [e, it]) (fun b ob hb q => (sb.2 b (fun z => hb (by simp [z]))).trans (hk b ob (fun z => hb (by simp [z])) (fun z => hb (by simp [z])) q)) hf (Nat.le_refl _) new
    refine ⟨.ref s.heap.objs.size, _, I1, rfl, ⟨_, x, rfl, I.hok.fresh (Nat.le_refl _), rfl, fun ys hy' => by rw [I.tuple_inj hy' hq]; exact hx⟩, ⟨⟨y, ?_⟩, hst.1.at fun o q => (sb.2 it (Ne.symm hne)).trans q, hne⟩, fun b hb => ?_⟩
    · have e1 : ((i + 1 : Nat) : Int) = (i : Int) + 1 := by omega
      rw [e1]; exact he'
    · have hb' : b < s.heap.objs.size := by
        rcases (by simpa using hb : b = e ∨ b = it) with z | z
        · rw [z]; exact hel
        · rw [z]; exact hil
      rw [upd_ne (Nat.ne_of_lt hb')]
      exact (hf b hb).1
  done := by
    intro X hP hw hK hc i pins s σ H E I hf st hg
    subst hP hw hK
    obtain ⟨⟨old, he⟩, hit, hne⟩ := st
    obtain ⟨xs, hq, hx⟩ := hg
    obtain ⟨its, rv, p, hz⟩ := I.tuple hq
    obtain ⟨f0, f1, f2, f3, f4, f5⟩ := hf it (by simp)
    have hl := rv.length
    have ht : s.heap.IsTuple a its.toArray := p
    have en : i = its.toArray.size := by rw [List.size_toArray]; omega
    refine wpAny_pyNext_enum_endD (Draws.tuple (A := X.A.in1) (I.ok.hd hc) it a (tupIter_ne hit ht) its.toArray) he ⟨en ▸ hit, ht⟩ fun h' eb => ⟨rfl, I.turned (t' := s.toks) (fun b o hb q => eb b o hb q) f0 f1 f3 f4 f5⟩
  self := fun A i s Q E st h => let ⟨⟨_, he⟩, _⟩ := st; wpAny_pyIter_enum he h
def iEnumT (K : PySem.W.Frag) (ta : TA) : TI := fun σ H R => ta σ H fun vs H1 => ∃ a xs, vs = [.ref a] ∧ SqT K H1 a xs ∧ R (IteT K a) H1
theorem pi_enumT {X : Cx} {e : Expr} {ta : TA} {p pos tpos : Pos} {elts : List Expr} {kk : Nat} (hg : Gl X "enumerate") (hm : X.mg "enumerate" = none) (ha : PA X [e] ta) (hs : starEach [e] X.env = [(false, eval e X.env)]) :
    PI X (.Tuple elts kk tpos) (.Call (.Name "enumerate" p) [e] [] pos) (iEnumT X.K ta) := by
  refine ⟨fun pins s σ H R I h => ?_⟩
  refine Call_ (ld_blt I hg hm boot_enumerate (PyProof.Rows.callWith_type1 (thn (ha.run pos pins s σ H _ I h) fun us s1 ⟨vs, H1, I1, r1, q1⟩ => ?_) hs rfl))
  obtain ⟨a, xs, ex, hq, q⟩ := q1
  subst ex
  obtain ⟨u, rfl, r⟩ := vals1 r1
  cases r
  obtain ⟨its, rv, p', hz⟩ := I1.tuple hq
  refine begin_enum1 (begins_tuple a its.toArray) (show s1.heap.IsTuple a its.toArray from p') fun h' he hit hsz hk => wpAny_pyIter_enum he ?_
  have I2 : Inv X pins σ H1 { s1 with heap := h' } := I1.kept (t' := s1.toks) hk
  refine ⟨s1.heap.objs.size + 1, [s1.heap.objs.size + 1, s1.heap.objs.size], _, _, H1, rfl, I2, turn_enumT a (s1.heap.objs.size + 1) s1.heap.objs.size, ⟨⟨.none, he⟩, ⟨_, hit, rfl, rfl⟩, Nat.succ_ne_self _⟩, fun b hb => ?_, q⟩
  have hle : s1.heap.objs.size ≤ b := by
    rcases (by simpa using hb : b = s1.heap.objs.size + 1 ∨ b = s1.heap.objs.size) with z | z
    · rw [z]; exact Nat.le_add_right _ _
    · rw [z]; exact Nat.le_refl _
  exact I1.fpOk hle (I1.hok.fresh hle)

/-! ### what is walked, as data -/
/-- J hands out xs, wherever S holds of what is frozen and of the heap -/
structure WalkD (K : PySem.W.Frag) (S : Hp → Hp → Prop) (xs : List D) (J : It) : Prop where
  go : ∀ i F H, S F H → i < xs.length → J.go i H
  stop : ∀ F H, S F H → J.stop xs.length H
  yld : ∀ i F H x H', S F H → i < xs.length → J.yld i H x H' → ∃ F' d, Ext F H F' H' ∧ FLe F' H' ∧ xs[i]? = some d ∧ Rep K F' d x
theorem _root_.L2.PI.imp {X : Cx} {tg iter : Expr} {t t' : TI} (h : PI X tg iter t) (m : ∀ σ H R, t' σ H R → t σ H R) : PI X tg iter t' := ⟨fun pins s σ H R I q => h.run pins s σ H R I (m σ H R q)⟩
theorem _root_.L2.PI.or {X : Cx} {tg iter : Expr} {t t' : TI} (h : PI X tg iter t) (h' : PI X tg iter t') : PI X tg iter (fun σ H R => t σ H R ∨ t' σ H R) := ⟨fun pins s σ H R I q => q.elim (h.run pins s σ H R I) (h'.run pins s σ H R I)⟩
/-- d is at v: frozen, or what a name owns -/
def RepV (K : PySem.W.Frag) (F : Hp) (σ : St) (env : Env) (d : D) (v : V) : Prop := Rep K F d v ∨ ∃ (i : Nat) (a : Addr), env[i]? = some (.own d) ∧ σ[i]? = some (some (.ref a)) ∧ v = .ref a
theorem RepV.repB {K : PySem.W.Frag} {F H : Hp} {σ : St} {env : Env} {d : D} {v : V} (r : RepV K F σ env d v) (o : Ok K F H σ env) : RepB K F H d v := by
  rcases r with r | ⟨i, a, h1, h2, rfl⟩
  · exact .inl r
  · obtain ⟨a', e, f, w⟩ := o.en.own i d h1
    rw [h2] at e; cases e
    exact .inr ⟨a, rfl, f, w⟩
theorem RepV.mono {K : PySem.W.Frag} {F F' : Hp} {σ : St} {env : Env} {d : D} {v : V} (r : RepV K F σ env d v) (m : FMono F F') : RepV K F' σ env d v := by
  rcases r with r | r
  · exact .inl (r.mono m)
  · exact .inr r
def RepVL (K : PySem.W.Frag) (F : Hp) (σ : St) (env : Env) : List D → List V → Prop
  | [], vs => vs = []
  | d :: ds, vs => ∃ v r, vs = v :: r ∧ RepV K F σ env d v ∧ RepVL K F σ env ds r
theorem RepVL.mono {K : PySem.W.Frag} {F F' : Hp} {σ : St} {env : Env} (m : FMono F F') : ∀ {ds : List D} {vs : List V}, RepVL K F σ env ds vs → RepVL K F' σ env ds vs
  | [], _, h => h
  | d :: ds, _, h => let ⟨v, r, e, h1, h2⟩ := h; ⟨v, r, e, h1.mono m, RepVL.mono m h2⟩
/-- fr: what is read must be frozen (ahead of a for); else a name that owns its list may be read, too (ahead of a comprehension) -/
def SM (fr : Bool) (K : PySem.W.Frag) (σ : St) (env : Env) (F : Hp) : Hp → Hp → Prop := fun F1 H1 => FMono F F1 ∧ FLe F1 H1 ∧ (fr = false → Ok K F1 H1 σ env)
def evX (fr : Bool) (G : Gm) (env : Env) (e : E) : Option D := if fr then ev G env e else bo env e (ev G env e)
def evM (fr : Bool) (G : Gm) (env : Env) (es : List E) : Option (List D) := if fr then evL G env es else evB G env es
def tW (K : PySem.W.Frag) (G : Gm) (e : E) : TE := fun σ H Q => ∃ F env d, Ok K F H σ env ∧ bo env e (ev G env e) = some d ∧ ∀ F' H' v, Ext F H F' H' → FLe F' H' → RepV K F' σ env d v → Q v H'
def tLW (K : PySem.W.Frag) (G : Gm) (es : List E) : TA := fun σ H Q => ∃ F env ds, Ok K F H σ env ∧ evB G env es = some ds ∧ ∀ F' H' vs, Ext F H F' H' → FLe F' H' → RepVL K F' σ env ds vs → Q vs H'
def tX (fr : Bool) (K : PySem.W.Frag) (G : Gm) (e : E) : TE := if fr then tD K G e else tW K G e
def tM (fr : Bool) (K : PySem.W.Frag) (G : Gm) (es : List E) : TA := if fr then tL K G es else tLW K G es
def tI (fr : Bool) (K : PySem.W.Frag) (G : Gm) (k : IK) (es : List E) : TI := fun σ H R => ∃ F env vs xs, Ok K F H σ env ∧ evM fr G env es = some vs ∧ walk k vs = some xs ∧ ∀ F' H' J, Ext F H F' H' → FLe F' H' → WalkD K (SM fr K σ env F') xs J → R J H'
section
variable {K : PySem.W.Frag} {S : Hp → Hp → Prop}
/-- the datum x is to be read at v wherever S holds -/
def Stays (K : PySem.W.Frag) (S : Hp → Hp → Prop) (x : D) (v : V) : Prop := ∀ F H, S F H → FLe F H ∧ RepB K F H x v
theorem Stays.grown {F : Hp} {σ : St} {env : Env} {x : D} {v : V} (r : RepV K F σ env x v) : Stays K (SM false K σ env F) x v := fun _ _ s => ⟨s.2.1, (r.mono s.1).repB (s.2.2 rfl)⟩
theorem Stays.froze {F : Hp} {σ : St} {env : Env} {x : D} {v : V} (r : Rep K F x v) : Stays K (SM true K σ env F) x v := fun _ _ s => ⟨s.2.1, .inl (r.mono s.1)⟩
theorem walk_tupD {xs : List D} {a : Addr} (h : Stays K S (.tup xs) (.ref a)) : WalkD K S xs (Itt K a) where
  go := fun i F H s hi => by
    obtain ⟨l, r⟩ := h F H s
    obtain ⟨_, vs, e, ea, ra, _⟩ := r.tup
    cases e
    have hl := ra.length
    exact ⟨vs, vs[i]'(by omega), .of (l.tup ea), by simp⟩
  stop := fun F H s => by
    obtain ⟨l, r⟩ := h F H s
    obtain ⟨_, vs, e, ea, ra, _⟩ := r.tup
    cases e
    exact ⟨vs, .of (l.tup ea), by rw [ra.length]; exact Nat.le_refl _⟩
  yld := fun i F H x H' s hi ⟨e1, y⟩ => by
    obtain ⟨l, r⟩ := h F H s
    obtain ⟨_, vs, e, ea, ra, _⟩ := r.tup
    cases e
    subst e1
    obtain ⟨d, hd, rd⟩ := ra.get' (y vs (.of (l.tup ea)))
    exact ⟨F, d, .refl _ _, l, hd, rd⟩
theorem walk_lstD {xs : List D} {a : Addr} (h : Stays K S (.lst xs) (.ref a)) : WalkD K S xs (Itl K a) where
  go := fun i F H s hi => by
    obtain ⟨l, r⟩ := h F H s
    obtain ⟨_, vs, e, ea, ra, _⟩ := r.lst l
    cases e
    have hl := ra.length
    exact ⟨vs, vs[i]'(by omega), .of ea, by simp⟩
  stop := fun F H s => by
    obtain ⟨l, r⟩ := h F H s
    obtain ⟨_, vs, e, ea, ra, _⟩ := r.lst l
    cases e
    exact ⟨vs, .of ea, by rw [ra.length]; exact Nat.le_refl _⟩
  yld := fun i F H x H' s hi ⟨e1, y⟩ => by
    obtain ⟨l, r⟩ := h F H s
    obtain ⟨_, vs, e, ea, ra, _⟩ := r.lst l
    cases e
    subst e1
    obtain ⟨d, hd, rd⟩ := ra.get' (y vs (.of ea))
    exact ⟨F, d, .refl _ _, l, hd, rd⟩
theorem walk_rngD {lo : Int} {n : Nat} (hS : ∀ F H, S F H → FLe F H) : WalkD K S (rgD lo n) (Itr lo n) where
  go := fun i F H s hi => by unfold rgD at hi; show i < n; simpa using hi
  stop := fun F H s => by unfold rgD; simp [Itr]
  yld := fun i F H x H' s hi ⟨e1, e2⟩ => by
    subst e1 e2
    unfold rgD at hi ⊢
    have hi : i < n := by simpa using hi
    exact ⟨F, .int (lo + i), .refl _ _, hS _ _ s, by simp [hi], rfl⟩
theorem walk_rngC {lo c : Int} {n : Nat} (hS : ∀ F H, S F H → FLe F H) : WalkD K S ((List.range n).map fun (k : Nat) => .int (lo + k * c)) (Itc lo c n) where
  go := fun i F H s hi => by show i < n; simpa using hi
  stop := fun F H s => by simp [Itc]
  yld := fun i F H x H' s hi ⟨e1, e2⟩ => by
    subst e1 e2
    have hi : i < n := by simpa using hi
    exact ⟨F, .int (lo + i * c), .refl _ _, hS _ _ s, by simp [hi], rfl⟩
theorem walk_revL {xs : List D} {a : Addr} {m : Nat} (h : Stays K S (.lst xs) (.ref a)) (hm : m = xs.length) : WalkD K S xs.reverse (Itv K a m) where
  go := fun i F H s hi => by
    obtain ⟨l, r⟩ := h F H s
    obtain ⟨_, vs, e, ea, ra, _⟩ := r.lst l
    cases e
    have hl := ra.length
    rw [List.length_reverse] at hi
    exact ⟨by omega, vs, vs[m - 1 - i]'(by omega), .of ea, by simp [show m - 1 - i < vs.length by omega]⟩
  stop := fun F H s => by rw [List.length_reverse, ← hm]; exact Nat.le_refl _
  yld := fun i F H x H' s hi ⟨e1, y⟩ => by
    obtain ⟨l, r⟩ := h F H s
    obtain ⟨_, vs, e, ea, ra, _⟩ := r.lst l
    cases e
    subst e1
    rw [List.length_reverse] at hi
    obtain ⟨d, hd, rd⟩ := ra.get' (y vs (.of ea))
    exact ⟨F, d, .refl _ _, l, by rw [List.getElem?_reverse hi, ← hm]; exact hd, rd⟩
theorem walk_revT {xs : List D} {a : Addr} {m : Nat} (h : Stays K S (.tup xs) (.ref a)) (hm : m = xs.length) : WalkD K S xs.reverse (RT.ItvT K a m) where
  go := fun i F H s hi => by
    obtain ⟨l, r⟩ := h F H s
    obtain ⟨_, vs, e, ea, ra, _⟩ := r.tup
    cases e
    have hl := ra.length
    rw [List.length_reverse] at hi
    exact ⟨by omega, vs, vs[m - 1 - i]'(by omega), .of (l.tup ea), by simp [show m - 1 - i < vs.length by omega]⟩
  stop := fun F H s => by rw [List.length_reverse, ← hm]; exact Nat.le_refl _
  yld := fun i F H x H' s hi ⟨e1, y⟩ => by
    obtain ⟨l, r⟩ := h F H s
    obtain ⟨_, vs, e, ea, ra, _⟩ := r.tup
    cases e
    subst e1
    rw [List.length_reverse] at hi
    obtain ⟨d, hd, rd⟩ := ra.get' (y vs (.of (l.tup ea)))
    exact ⟨F, d, .refl _ _, l, by rw [List.getElem?_reverse hi, ← hm]; exact hd, rd⟩
/-- a new pair -/
theorem yld_pair {F H : Hp} {T : Addr} {d e : D} {x y : V} (l : FLe F H) (n : H T = none) (r1 : Rep K F d x) (r2 : Rep K F e y) : ∃ F', Ext F H F' (upd H T (.tup [x, y])) ∧ FLe F' (upd H T (.tup [x, y])) ∧ Rep K F' (.tup [d, e]) (.ref T) :=
  ⟨upd F T (.tup [x, y]), .new l n, l.new n, T, [x, y], rfl, upd_same, ⟨x, _, rfl, r1.mono (.upd (l.free n)), y, _, rfl, r2.mono (.upd (l.free n)), rfl⟩, by show 2 ≤ line; decide⟩
theorem enum_at (xs : List D) (i : Nat) (d : D) (h : xs[i]? = some d) : ((List.range xs.length).map fun (k : Nat) => D.tup [.int k, xs.getD k .non])[i]? = some (.tup [.int i, d]) := by
  have hi := (List.getElem?_eq_some_iff.mp h).1
  rw [List.getElem?_map, List.getElem?_range hi]
  simp [List.getD_eq_getElem?_getD, h]
theorem walk_enumT {xs : List D} {a : Addr} (h : Stays K S (.tup xs) (.ref a)) : WalkD K S ((List.range xs.length).map fun (k : Nat) => .tup [.int k, xs.getD k .non]) (IteT K a) where
  go := fun i F H s hi => by
    obtain ⟨l, r⟩ := h F H s
    obtain ⟨_, vs, e, ea, ra, _⟩ := r.tup
    cases e
    have hl := ra.length
    simp only [List.length_map, List.length_range] at hi
    exact ⟨vs, vs[i]'(by omega), .of (l.tup ea), by simp⟩
  stop := fun F H s => by
    obtain ⟨l, r⟩ := h F H s
    obtain ⟨_, vs, e, ea, ra, _⟩ := r.tup
    cases e
    exact ⟨vs, .of (l.tup ea), by rw [ra.length]; simp⟩
  yld := fun i F H x H' s hi ⟨T, w, e1, n, e2, y⟩ => by
    obtain ⟨l, r⟩ := h F H s
    obtain ⟨_, vs, e, ea, ra, _⟩ := r.tup
    cases e
    subst e1 e2
    obtain ⟨d, hd, rd⟩ := ra.get' (y vs (.of (l.tup ea)))
    obtain ⟨F', x1, l1, r1⟩ := yld_pair l n (show Rep K F (.int i) (.int i) from rfl) rd
    exact ⟨F', _, x1, l1, enum_at xs i d hd, r1⟩
theorem walk_enumL {xs : List D} {a : Addr} (h : Stays K S (.lst xs) (.ref a)) : WalkD K S ((List.range xs.length).map fun (k : Nat) => .tup [.int k, xs.getD k .non]) (Ite K a) where
  go := fun i F H s hi => by
    obtain ⟨l, r⟩ := h F H s
    obtain ⟨_, vs, e, ea, ra, _⟩ := r.lst l
    cases e
    have hl := ra.length
    simp only [List.length_map, List.length_range] at hi
    exact ⟨vs, vs[i]'(by omega), .of ea, by simp⟩
  stop := fun F H s => by
    obtain ⟨l, r⟩ := h F H s
    obtain ⟨_, vs, e, ea, ra, _⟩ := r.lst l
    cases e
    exact ⟨vs, .of ea, by rw [ra.length]; simp⟩
  yld := fun i F H x H' s hi ⟨T, w, e1, n, e2, y⟩ => by
    obtain ⟨l, r⟩ := h F H s
    obtain ⟨_, vs, e, ea, ra, _⟩ := r.lst l
    cases e
    subst e1 e2
    obtain ⟨d, hd, rd⟩ := ra.get' (y vs (.of ea))
    obtain ⟨F', x1, l1, r1⟩ := yld_pair l n (show Rep K F (.int i) (.int i) from rfl) rd
    exact ⟨F', _, x1, l1, enum_at xs i d hd, r1⟩
end

/-! ### the walks' rules -/
section
variable {X : Cx} {G : Gm} {K : PySem.W.Frag} {F H : Hp} {σ : St} {env : Env} {fr : Bool} {e a b c : E} {me ma mb mc tg : Expr} {pos : Pos} {es : List E} {mes : List Expr}
theorem SM.le {F1 H1 : Hp} (s : SM fr K σ env F F1 H1) : FLe F1 H1 := s.2.1
theorem r_varW {i : Nat} {x : Str} (h : PE X (.Name x pos) (L2.tVar i)) : PE X (.Name x pos) (tW K G (.var i)) := h.imp fun σ H Q ⟨F, env, d, o, hd, k⟩ => by
  have hd' : env.bor i = some d := hd
  unfold Env.bor at hd'
  split at hd'
  · rename_i z hz
    cases hd'
    obtain ⟨v, e1, r⟩ := o.en.val i d hz
    exact ⟨v, e1, k F H v (.refl F H) o.le (.inl r)⟩
  · rename_i z hz
    cases hd'
    obtain ⟨a, e1, f, r⟩ := o.en.own i d hz
    exact ⟨.ref a, e1, k F H _ (.refl F H) o.le (.inr ⟨i, a, hz, e1, rfl⟩)⟩
  · cases hd'
theorem tW_of (hne : ∀ i, e ≠ .var i) (h : PE X me (tD K G e)) : PE X me (tW K G e) := h.imp fun σ H Q ⟨F, env, d, o, hd, k⟩ =>
  ⟨F, env, d, o, by cases e <;> first | exact hd | exact absurd rfl (hne _), fun F' H' v x l r => k F' H' v x l (.inl r)⟩
theorem runX {d : D} {Q : VK} (o : Ok K F H σ env) (h : evX fr G env e = some d) (k : ∀ F' H' v, Ext F H F' H' → Ok K F' H' σ env → Stays K (SM fr K σ env F') d v → RepB K F' H' d v → Q v H') : tX fr K G e σ H Q := by
  cases fr with
  | true => exact runD o h fun F' H' v x o1 r => k F' H' v x o1 (.froze r) (.inl r)
  | false => exact ⟨F, env, d, o, h, fun F' H' v x l r => k F' H' v x (o.ext x l) (.grown r) (r.repB (o.ext x l))⟩
/-- the arguments stay -/
def StaysL (K : PySem.W.Frag) (S : Hp → Hp → Prop) : List D → List V → Prop
  | [], vs => vs = []
  | d :: ds, vs => ∃ v r, vs = v :: r ∧ Stays K S d v ∧ StaysL K S ds r
theorem StaysL.froze : ∀ {ds : List D} {vs : List V}, RepL K F ds vs → StaysL K (SM true K σ env F) ds vs
  | [], _, h => h
  | d :: ds, _, h => let ⟨v, r, e, h1, h2⟩ := h; ⟨v, r, e, .froze h1, StaysL.froze h2⟩
theorem StaysL.grown : ∀ {ds : List D} {vs : List V}, RepVL K F σ env ds vs → StaysL K (SM false K σ env F) ds vs
  | [], _, h => h
  | d :: ds, _, h => let ⟨v, r, e, h1, h2⟩ := h; ⟨v, r, e, .grown h1, StaysL.grown h2⟩
theorem RepL.bor : ∀ {ds : List D} {vs : List V}, RepL K F ds vs → RepBL K F H ds vs
  | [], _, h => h
  | d :: ds, _, h => let ⟨v, r, e, h1, h2⟩ := h; ⟨v, r, e, .inl h1, RepL.bor h2⟩
theorem RepVL.bor (o : Ok K F H σ env) : ∀ {ds : List D} {vs : List V}, RepVL K F σ env ds vs → RepBL K F H ds vs
  | [], _, h => h
  | d :: ds, _, h => let ⟨v, r, e, h1, h2⟩ := h; ⟨v, r, e, h1.repB o, RepVL.bor o h2⟩
theorem runM {ds : List D} {Q : List V → Hp → Prop} (o : Ok K F H σ env) (h : evM fr G env es = some ds) (k : ∀ F' H' vs, Ext F H F' H' → Ok K F' H' σ env → StaysL K (SM fr K σ env F') ds vs → RepBL K F' H' ds vs → Q vs H') : tM fr K G es σ H Q := by
  cases fr with
  | true => exact runL o h fun F' H' v x o1 r => k F' H' v x o1 (.froze r) r.bor
  | false => exact ⟨F, env, ds, o, h, fun F' H' v x l r => k F' H' v x (o.ext x l) (.grown r) (r.bor (o.ext x l))⟩
theorem evM_one {vs : List D} (h : evM fr G env [e] = some vs) : ∃ x, evX fr G env e = some x ∧ vs = [x] := by
  cases fr with
  | true =>
    obtain ⟨x, hx, h⟩ := Option.bind_eq_some_iff.mp (show (ev G env e).bind _ = some vs from h)
    obtain ⟨xs, hxs, rfl⟩ := Option.map_eq_some_iff.mp h
    cases hxs
    exact ⟨x, hx, rfl⟩
  | false =>
    obtain ⟨x, hx, h⟩ := Option.bind_eq_some_iff.mp (show (bo env e (ev G env e)).bind _ = some vs from h)
    obtain ⟨xs, hxs, rfl⟩ := Option.map_eq_some_iff.mp h
    cases hxs
    exact ⟨x, hx, rfl⟩
theorem m_nil : PA X [] (tM fr K G []) := by
  cases fr
  · exact pa_nil.imp fun σ H Q ⟨F, env, d, o, hd, k⟩ => by
      cases hd; exact k _ _ _ (.refl F H) o.le rfl
  · exact a_nil
theorem m_cons (ha : PE X ma (tX fr K G a)) (hr : PA X mes (tM fr K G es)) (hs : starEach (ma :: mes) X.env = (false, eval ma X.env) :: starEach mes X.env) : PA X (ma :: mes) (tM fr K G (a :: es)) := by
  cases fr
  · exact (pa_cons ha hr hs).imp fun σ H Q ⟨F, env, d, o, hd, k⟩ => by
      obtain ⟨x, hx, hd⟩ := Option.bind_eq_some_iff.mp (show (bo env a (ev G env a)).bind _ = some d from hd)
      obtain ⟨xs, hxs, rfl⟩ := Option.map_eq_some_iff.mp hd
      exact ⟨F, env, x, o, hx, fun F1 H1 v x1 l1 r1 => ⟨F1, env, xs, o.ext x1 l1, hxs, fun F2 H2 vs x2 l2 r2 => k _ _ _ (x1.trans x2) l2 ⟨v, vs, rfl, r1.mono x2.f, r2⟩⟩⟩
  · exact a_cons ha hr hs
def iRngO (tl : TE) : TI := fun σ H R => tl σ H fun x H1 => ∃ (p : Addr) (lo hi : Int), x = .ref p ∧ H1 p = some (.rng lo hi) ∧ (-(2 ^ 62) ≤ lo ∧ lo < 2 ^ 62 ∧ -(2 ^ 62) ≤ hi ∧ hi < 2 ^ 62) ∧ R (Itr lo (hi - lo).toNat) H1
/-- a range that a name holds -/
theorem pi_rngO {l : Expr} {tl : TE} (hl : PE X l tl) : PI X tg l (iRngO tl) := by
  refine ⟨fun pins s σ H R I h => ?_⟩
  refine thn (hl.run pins s σ H _ I h) fun v s1 ⟨x, H1, I1, r1, p, lo, hi, ex, e1, hb, q⟩ => ?_
  subst ex
  obtain rfl : v = Value.ref p := r1
  obtain ⟨t, u, w, e2⟩ := I1.hok p _ e1
  have I2 : Inv X pins σ H1 { s1 with heap := s1.heap.push { cls := .type "range_iterator", data := .fields #[rawInt lo, rawInt (Builtin.Range.rangeSize lo hi 1), rawInt 1] } } := I1.kept (t' := s1.toks) fun b o e => Heap.get?_push_of_some _ e
  refine wpAny_pyIter_range (r := p) e2 (small_one hb.1 hb.2.1 hb.2.2.1 hb.2.2.2) ?_
  refine ⟨s1.heap.objs.size, [s1.heap.objs.size], _, _, H1, rfl, I2, turn_range _ lo (hi - lo).toNat, ?_, fun b hm => ?_, q⟩
  · have k1 : lo + ((0 : Nat) : Int) * 1 = lo := by simp
    have k2 : (((hi - lo).toNat : Nat) : Int) - ((0 : Nat) : Int) = Builtin.Range.rangeSize lo hi 1 := by rw [rangeSize_one]; split <;> omega
    rw [k1, k2]
    exact Heap.get?_push_size _ rfl
  · obtain rfl : b = s1.heap.objs.size := by simpa using hm
    exact I1.fpOk (Nat.le_refl _) (I1.hok.fresh (Nat.le_refl _))
theorem w_seq (he : PE X me (tX fr X.K G e)) : PI X tg me (tI fr X.K G .seq [e]) := (((pi_list he).or (pi_tup he)).or (pi_rngO he)).imp fun σ H R ⟨F, env, vs, xs, o, hv, hw, k⟩ => by
  obtain ⟨x, hx, rfl⟩ := evM_one hv
  cases x <;> simp only [walk] at hw <;> try cases hw
  · refine .inl (.inr (runX o hx fun F1 H1 v x1 o1 st r1 => ?_))
    obtain ⟨a, vs, rfl, ea, ra, la⟩ := r1.tup
    exact ⟨a, rfl, ⟨vs, .of (o1.le.tup ea)⟩, k _ _ _ x1 o1.le (walk_tupD st)⟩
  · refine .inl (.inl (runX o hx fun F1 H1 v x1 o1 st r1 => ?_))
    obtain ⟨a, vs, rfl, ea, ra, la⟩ := r1.lst o1.le
    exact ⟨a, rfl, ⟨vs, .of ea⟩, k _ _ _ x1 o1.le (walk_lstD st)⟩
  · split at hw <;> cases hw
    rename_i lo hi hb
    refine .inr (runX o hx fun F1 H1 v x1 o1 st r1 => ?_)
    obtain ⟨p, rfl, e⟩ := r1.rng o1.le
    exact ⟨p, lo, hi, rfl, e, hb, k _ _ _ x1 o1.le (walk_rngD fun _ _ => SM.le)⟩
theorem w_r1 {p : Pos} (hg : Gl X "range") (hm : X.mg "range" = none) (ha : PA X [ma] (tM fr X.K G [a])) (hs : starEach [ma] X.env = [(false, eval ma X.env)]) : PI X tg (.Call (.Name "range" p) [ma] [] pos) (tI fr X.K G .r1 [a]) :=
  (pi_range1 hg hm ha hs).imp fun σ H R ⟨F, env, vs, xs, o, hv, hw, k⟩ => by
    refine runM o hv fun F1 H1 ws x1 o1 st r1 => ?_
    rcases vs with _ | ⟨d, _ | ⟨d2, r⟩⟩ <;> (try simp only [walk] at hw) <;> try cases hw
    all_goals (cases d <;> (try simp only [walk] at hw) <;> try cases hw)
    split at hw <;> cases hw
    rename_i hb
    obtain ⟨v, r', rfl, r1, e⟩ := r1
    cases e
    exact ⟨_, by rw [r1.int], hb.1, hb.2, k _ _ _ x1 o1.le (walk_rngD fun _ _ => SM.le)⟩
theorem w_r2 {p : Pos} (hg : Gl X "range") (hm : X.mg "range" = none) (ha : PA X [ma, mb] (tM fr X.K G [a, b])) (hs : starEach [ma, mb] X.env = [(false, eval ma X.env), (false, eval mb X.env)]) (hs2 : starEach [mb] X.env = [(false, eval mb X.env)]) :
    PI X tg (.Call (.Name "range" p) [ma, mb] [] pos) (tI fr X.K G .r2 [a, b]) :=
  (pi_range2 hg hm ha hs hs2).imp fun σ H R ⟨F, env, vs, xs, o, hv, hw, k⟩ => by
    refine runM o hv fun F1 H1 ws x1 o1 st r1 => ?_
    rcases vs with _ | ⟨d, _ | ⟨d2, _ | ⟨d3, r⟩⟩⟩ <;> (try simp only [walk] at hw) <;> try cases hw
    all_goals (cases d <;> (try simp only [walk] at hw) <;> try cases hw)
    all_goals (cases d2 <;> (try simp only [walk] at hw) <;> try cases hw)
    split at hw <;> cases hw
    rename_i hb
    obtain ⟨v, r', rfl, r1, u, r'', rfl, r2, e⟩ := r1
    cases e
    exact ⟨_, _, by rw [r1.int, r2.int], hb, k _ _ _ x1 o1.le (walk_rngD fun _ _ => SM.le)⟩
theorem w_enum {elts : List Expr} {kk : Nat} {p tpos : Pos} (hg : Gl X "enumerate") (hm : X.mg "enumerate" = none) (ha : PA X [ma] (tM fr X.K G [a])) (hs : starEach [ma] X.env = [(false, eval ma X.env)]) :
    PI X (.Tuple elts kk tpos) (.Call (.Name "enumerate" p) [ma] [] pos) (tI fr X.K G .enum [a]) :=
  ((pi_enum hg hm ha hs).or (pi_enumT hg hm ha hs)).imp fun σ H R ⟨F, env, vs, xs, o, hv, hw, k⟩ => by
    obtain ⟨x, hx, rfl⟩ := evM_one hv
    cases x <;> simp only [walk] at hw <;> try cases hw
    · refine .inr (runM o hv fun F1 H1 ws x1 o1 st r1 => ?_)
      obtain ⟨v, r', rfl, r1, e⟩ := r1
      cases e
      obtain ⟨_, _, e, st, _⟩ := st
      cases e
      obtain ⟨a, vs, rfl, ea, ra, la⟩ := r1.tup
      exact ⟨a, vs, rfl, .of (o1.le.tup ea), k _ _ _ x1 o1.le (walk_enumT st)⟩
    · refine .inl (runM o hv fun F1 H1 ws x1 o1 st r1 => ?_)
      obtain ⟨v, r', rfl, r1, e⟩ := r1
      cases e
      obtain ⟨_, _, e, st, _⟩ := st
      cases e
      obtain ⟨a, vs, rfl, ea, ra, la⟩ := r1.lst o1.le
      exact ⟨a, vs, rfl, .of ea, k _ _ _ x1 o1.le (walk_enumL st)⟩
theorem w_rev {p : Pos} (hg : Gl X "reversed") (hm : X.mg "reversed" = none) (ha : PE X ma (tX fr X.K G a)) (hs : starEach [ma] X.env = (false, eval ma X.env) :: starEach [] X.env) : PI X tg (.Call (.Name "reversed" p) [ma] [] pos) (tI fr X.K G .rev [a]) :=
  (RT.pi_revA hg hm ha hs).imp fun σ H R ⟨F, env, vs, xs, o, hv, hw, k⟩ => by
    obtain ⟨x, hx, rfl⟩ := evM_one hv
    obtain ⟨ds, hd, rfl⟩ := Option.map_eq_some_iff.mp (show x.seq?.map List.reverse = some xs from hw)
    refine runX o hx fun F1 H1 v x1 o1 st r1 => ?_
    rcases seq_some hd with rfl | rfl
    · obtain ⟨a, vs, rfl, ea, ra, la⟩ := r1.tup
      exact ⟨a, vs, rfl, .inr ⟨.of (o1.le.tup ea), k _ _ _ x1 o1.le (walk_revT st ra.length)⟩⟩
    · obtain ⟨a, vs, rfl, ea, ra, la⟩ := r1.lst o1.le
      exact ⟨a, vs, rfl, .inl ⟨.of ea, k _ _ _ x1 o1.le (walk_revL st ra.length)⟩⟩
end
end Rx
end

section
set_option Elab.async false
set_option linter.all false
set_option maxRecDepth 100000
set_option maxHeartbeats 1000000
set_option autoImplicit false
/-! RxComp: targets, comprehensions, what is just made. -/
namespace Rx
open PySem PySem.Spec PyProof.Rows L2

/-! ### slots forgotten -/
theorem wipe_get (σ : St) (j : Nat) : ∀ vs : List Nat, (wipe σ vs)[j]? = if j ∈ vs then (σ[j]?).map (fun _ => none) else σ[j]?
  | [] => by simp [wipe]
  | v :: vs => by
    unfold wipe
    by_cases h : v = j
    · subst h
      by_cases hl : v < σ.length
      · rw [List.getElem?_set_self (by rw [wipe_length]; exact hl)]
        simp [hl]
      · rw [List.getElem?_eq_none (by rw [List.length_set, wipe_length]; omega)]
        simp [List.getElem?_eq_none (by omega : σ.length ≤ v)]
    · rw [List.getElem?_set_ne h, wipe_get σ j vs]
      have : j ≠ v := fun e => h e.symm
      simp [this]
theorem wipe_congr {σ τ : St} {vs : List Nat} (hl : σ.length = τ.length) (h : ∀ j, j ∉ vs → σ[j]? = τ[j]?) : wipe σ vs = wipe τ vs := by
  apply List.ext_getElem?
  intro j
  rw [wipe_get, wipe_get]
  split
  · by_cases hj : j < σ.length
    · rw [List.getElem?_eq_getElem hj, List.getElem?_eq_getElem (by omega : j < τ.length)]; rfl
    · rw [List.getElem?_eq_none (by omega), List.getElem?_eq_none (by omega)]
  · exact h j ‹_›
theorem kill_get (env : Env) (j : Nat) : ∀ vs : List Nat, (env.kill vs)[j]? = if j ∈ vs then (env[j]?).map (fun _ => Cell.unk) else env[j]?
  | [] => by simp [Env.kill]
  | v :: vs => by
    unfold Env.kill
    rw [kill_get _ j vs]
    by_cases h : v = j
    · subst h
      by_cases hl : v < env.length
      · simp [List.getElem?_set_self hl, hl]
      · rw [List.getElem?_eq_none (by simp; omega), List.getElem?_eq_none (by omega)]
        simp
    · rw [List.getElem?_set_ne h]
      have : j ≠ v := fun e => h e.symm
      simp [this]
theorem kill_length (env : Env) : ∀ vs : List Nat, (env.kill vs).length = env.length := by
  intro vs
  induction vs generalizing env with
  | nil => rfl
  | cons v vs ih => unfold Env.kill; rw [ih]; simp
section
variable {K : PySem.W.Frag} {F H : Hp} {σ : St} {env : Env}
/-- some names are forgotten -/
theorem EnvOk.kill (E : EnvOk K F H σ env) (vs : List Nat) : EnvOk K F H σ (env.kill vs) := by
  have key : ∀ {i : Nat} {c : Cell}, (env.kill vs)[i]? = some c → c ≠ .unk → env[i]? = some c := fun {i c} h n => by
    rw [kill_get] at h
    split at h
    · cases q : env[i]? with
      | none => rw [q] at h; cases h
      | some z => rw [q] at h; cases h; exact absurd rfl n
    · exact h
  refine ⟨by rw [kill_length]; exact E.len, fun i d e => E.val i d (key e (by simp)), fun i d e => E.own i d (key e (by simp)), fun i j d e a hij h1 h2 => E.sep i j d e a hij (key h1 (by simp)) (key h2 (by simp))⟩
theorem EnvOk.wipe (E : EnvOk K F H σ env) (vs : List Nat) : EnvOk K F H (wipe σ vs) (env.kill vs) := by
  have key : ∀ {i : Nat} {c : Cell}, (env.kill vs)[i]? = some c → c ≠ .unk → env[i]? = some c ∧ (L2.wipe σ vs)[i]? = σ[i]? := fun {i c} h n => by
    rw [kill_get] at h
    rw [wipe_get]
    split at h
    · cases q : env[i]? with
      | none => rw [q] at h; cases h
      | some z => rw [q] at h; cases h; exact absurd rfl n
    · rename_i hi
      exact ⟨h, by rw [if_neg hi]⟩
  refine ⟨by rw [kill_length, wipe_length]; exact E.len, fun i d e => ?_, fun i d e => ?_, fun i j d e a hij h1 h2 => ?_⟩
  · obtain ⟨e1, e2⟩ := key e (by simp)
    rw [e2]; exact E.val i d e1
  · obtain ⟨e1, e2⟩ := key e (by simp)
    rw [e2]; exact E.own i d e1
  · obtain ⟨e1, e2⟩ := key h1 (by simp)
    obtain ⟨e3, e4⟩ := key h2 (by simp)
    rw [e2, e4]; exact E.sep i j d e a hij e1 e3
theorem set_get {α : Type} {l : List α} {i j : Nat} {x y : α} (h : (l.set i x)[j]? = some y) : (j = i ∧ y = x ∧ i < l.length) ∨ (j ≠ i ∧ l[j]? = some y) := by
  by_cases e : i = j
  · subst e
    by_cases hl : i < l.length
    · rw [List.getElem?_set_self hl] at h
      exact .inl ⟨rfl, (Option.some.inj h).symm, hl⟩
    · rw [List.getElem?_eq_none (by simp; omega)] at h; cases h
  · rw [List.getElem?_set_ne e] at h
    exact .inr ⟨fun z => e z.symm, h⟩
/-- a name gets a frozen value -/
theorem EnvOk.set (E : EnvOk K F H σ env) {i : Nat} {d : D} {v : V} (r : Rep K F d v) : EnvOk K F H (σ.set i (some v)) (env.set i (.val d)) := by
  have ow : ∀ {j : Nat} {e : D}, (env.set i (.val d))[j]? = some (.own e) → j ≠ i ∧ env[j]? = some (.own e) := fun {j e} h => by
    rcases set_get h with ⟨_, h, _⟩ | h
    · cases h
    · exact h
  refine ⟨by rw [List.length_set, List.length_set]; exact E.len, fun j e h => ?_, fun j e h => ?_, fun j k e e' a hjk h1 h2 => ?_⟩
  · rcases set_get h with ⟨rfl, h, hl⟩ | ⟨hj, h⟩
    · cases h
      exact ⟨v, by rw [List.getElem?_set_self (by rw [← E.len]; exact hl)], r⟩
    · rw [List.getElem?_set_ne (Ne.symm hj)]; exact E.val j e h
  · obtain ⟨hj, h⟩ := ow h
    rw [List.getElem?_set_ne (Ne.symm hj)]; exact E.own j e h
  · obtain ⟨hj, h1⟩ := ow h1
    obtain ⟨hk, h2⟩ := ow h2
    rw [List.getElem?_set_ne (Ne.symm hj), List.getElem?_set_ne (Ne.symm hk)]
    exact E.sep j k e e' a hjk h1 h2
/-- a name gets an object of its own -/
theorem EnvOk.setO (E : EnvOk K F H σ env) {i : Nat} {d : D} {a : Addr} (hf : F a = none) (r : OwnAt K F H a d) (hn : ∀ (j : Nat) (e : D), j ≠ i → env[j]? = some (.own e) → σ[j]? ≠ some (some (.ref a))) :
    EnvOk K F H (σ.set i (some (.ref a))) (env.set i (.own d)) := by
  refine ⟨by rw [List.length_set, List.length_set]; exact E.len, fun j e h => ?_, fun j e h => ?_, fun j k e e' b hjk h1 h2 h3 => ?_⟩
  · rcases set_get h with ⟨_, h, hl⟩ | ⟨hj, h⟩
    · cases h
    · rw [List.getElem?_set_ne (Ne.symm hj)]; exact E.val j e h
  · rcases set_get h with ⟨rfl, h, hl⟩ | ⟨hj, h⟩
    · cases h
      exact ⟨a, by rw [List.getElem?_set_self (by rw [← E.len]; exact hl)], hf, r⟩
    · rw [List.getElem?_set_ne (Ne.symm hj)]; exact E.own j e h
  · rcases set_get h1 with ⟨rfl, _, hl⟩ | ⟨hj, g1⟩
    · rw [List.getElem?_set_self (by rw [← E.len]; exact hl)] at h3
      cases h3
      rcases set_get h2 with ⟨rfl, _, _⟩ | ⟨hk, h2⟩
      · exact absurd rfl hjk
      · rw [List.getElem?_set_ne (Ne.symm hk)]; exact hn k e' hk h2
    · rw [List.getElem?_set_ne (Ne.symm hj)] at h3
      rcases set_get h2 with ⟨rfl, _, hl⟩ | ⟨hk, h2⟩
      · rw [List.getElem?_set_self (by rw [← E.len]; exact hl)]
        intro z
        have z' : b = a := by injection z with z; injection z with z; injection z with z; exact z.symm
        subst z'
        exact hn j e hj g1 h3
      · rw [List.getElem?_set_ne (Ne.symm hk)]; exact E.sep j k e e' b hjk g1 h2 h3
end

/-! ### targets -/
mutual
def T.names : T → List Nat
  | .name i => [i]
  | .tup ts => T.namesL ts
def T.namesL : List T → List Nat
  | [] => []
  | t :: ts => T.names t ++ T.namesL ts
end
def tG (K : PySem.W.Frag) (t : T) : TG := fun v σ H Q => ∃ F env d env', Ok K F H σ env ∧ Rep K F d v ∧ bind t d env = some env' ∧
  ∀ σ', Ok K F H σ' env' → σ'.length = σ.length → (∀ j, j ∉ T.names t → σ'[j]? = σ[j]?) → Q σ' H
def tGs (K : PySem.W.Frag) (ts : List T) : TGs := fun vs σ H Q => ∃ F env ds env', Ok K F H σ env ∧ RepL K F ds vs ∧ bindL ts ds env = some env' ∧
  ∀ σ', Ok K F H σ' env' → σ'.length = σ.length → (∀ j, j ∉ T.namesL ts → σ'[j]? = σ[j]?) → Q σ' H
theorem _root_.L2.PG.imp {X : Cx} {tg : Expr} {t t' : TG} (h : PG X tg t) (m : ∀ v σ H Q, t' v σ H Q → t v σ H Q) : PG X tg t' := ⟨fun pins s σ H v u Q I r q => h.run pins s σ H v u Q I r (m v σ H Q q)⟩
theorem _root_.L2.PG.or {X : Cx} {tg : Expr} {t t' : TG} (h : PG X tg t) (h' : PG X tg t') : PG X tg (fun v σ H Q => t v σ H Q ∨ t' v σ H Q) := ⟨fun pins s σ H v u Q I r q => q.elim (h.run pins s σ H v u Q I r) (h'.run pins s σ H v u Q I r)⟩
theorem _root_.L2.PGs.imp {X : Cx} {tg : List Expr} {t t' : TGs} (h : PGs X tg t) (m : ∀ v σ H Q, t' v σ H Q → t v σ H Q) : PGs X tg t' := ⟨fun pins s σ H v u Q I r q => h.run pins s σ H v u Q I r (m v σ H Q q)⟩
section
variable {X : Cx} {K : PySem.W.Frag} {F H : Hp} {σ : St} {env : Env} {pos : Pos}
theorem g_name {i : Nat} {x : Str} (h : PG X (.Name x pos) (gName i)) : PG X (.Name x pos) (tG K (.name i)) := h.imp fun v σ H Q ⟨F, env, d, env', o, r, hb, k⟩ => by
  cases hb
  exact k _ ⟨o.le, o.en.set r⟩ (by simp) fun j hj => by
    rw [List.getElem?_set_ne]
    intro e; exact hj (by simp [T.names, e])
theorem g_nil : PGs X [] (tGs K []) := pgs_nil.imp fun vs σ H Q ⟨F, env, ds, env', o, r, hb, k⟩ => by
  cases ds with
  | cons => cases hb
  | nil => cases hb; exact ⟨r, k σ o rfl fun _ _ => rfl⟩
theorem g_cons {e : Expr} {es : List Expr} {t : T} {ts : List T} (h1 : PG X e (tG K t)) (h2 : PGs X es (tGs K ts)) (hs : (assignEach (e :: es) X.env).map (·.2) = assign e X.env :: (assignEach es X.env).map (·.2)) : PGs X (e :: es) (tGs K (t :: ts)) :=
  (pgs_cons h1 h2 hs).imp fun vs σ H Q ⟨F, env, ds, env', o, r, hb, k⟩ => by
    cases ds with
    | nil => cases hb
    | cons d ds =>
      obtain ⟨v, r', rfl, r1, r2⟩ := r
      obtain ⟨e1, h1, hb⟩ := Option.bind_eq_some_iff.mp (show (bind t d env).bind _ = some env' from hb)
      refine ⟨v, r', rfl, F, env, d, e1, o, r1, h1, fun σ1 o1 l1 s1 => ⟨F, e1, ds, env', o1, r2, hb, fun σ2 o2 l2 s2 => k σ2 o2 (l2.trans l1) fun j hj => ?_⟩⟩
      simp only [T.namesL, List.mem_append, not_or] at hj
      exact (s2 j hj.2).trans (s1 j hj.1)
theorem g_tup {es : List Expr} {kk n : Nat} {ts : List T} (hc : X.calm = true) (h : PGs X es (tGs X.K ts)) (hn : (assignEach es X.env).length = n) (hl : ts.length = n) (hst : (assignEach es X.env).findIdx? (·.1) = none) : PG X (.Tuple es kk pos) (tG X.K (.tup ts)) :=
  ((pg_tup hc h hn hst).or (pg_unl hc h hn hst)).imp fun v σ H Q ⟨F, env, d, env', o, r, hb, k⟩ => by
    have ln : ∀ {ts : List T} {ds : List D} {e e' : Env}, bindL ts ds e = some e' → ts.length = ds.length := by
      intro ts
      induction ts with
      | nil => intro ds e e' h; cases ds with | nil => rfl | cons => cases h
      | cons t ts ih =>
        intro ds e e' h
        cases ds with
        | nil => cases h
        | cons d ds =>
          obtain ⟨_, _, h⟩ := Option.bind_eq_some_iff.mp (show (bind t d e).bind _ = some e' from h)
          simp [ih h]
    cases d <;> (try simp only [bind] at hb) <;> try cases hb
    · obtain ⟨a, vs, rfl, ea, ra, la⟩ := r
      refine .inl ⟨a, vs, rfl, .of (o.le.tup ea), by rw [ra.length, ← ln hb, hl], F, env, _, env', o, ra, hb, fun σ' o' l' s' => k σ' o' l' s'⟩
    · obtain ⟨a, vs, rfl, ea, ra, la⟩ := r
      refine .inr ⟨a, vs, rfl, .of (o.le.lst ea), by rw [ra.length, ← ln hb, hl], F, env, _, env', o, ra, hb, fun σ' o' l' s' => k σ' o' l' s'⟩
end

/-! ### what is just made -/
/-- as tD, the list or dict at a new place, not frozen yet -/
def tN (K : PySem.W.Frag) (G : Gm) (e : E) : TE := fun σ H Q => ∃ F env d, Ok K F H σ env ∧ ev G env e = some d ∧ ∀ F' H' a, Ext F H F' H' → FLe F' H' → H a = none → F' a = none → OwnAt K F' H' a d → Q (.ref a) H'
theorem _root_.L2.PE.frz {X : Cx} {K : PySem.W.Frag} {G : Gm} {e : E} {me : Expr} (h : PE X me (tN K G e)) : PE X me (tD K G e) := h.imp fun σ H Q ⟨F, env, d, o, hd, k⟩ => ⟨F, env, d, o, hd, fun F' H' a x l n f w => by
  obtain ⟨ob, h1, r⟩ := w.rep f
  exact k _ _ _ (x.freeze n f) (l.freeze h1) r⟩

/-! ### the tests of a comprehension -/
def tTL (K : PySem.W.Frag) (G : Gm) (fs : List C) : TT := fun σ H Q => ∃ F env c, Ok K F H σ env ∧ tsL G env fs = some c ∧ ∀ F' H', Ext F H F' H' → FLe F' H' → Q c H'
theorem _root_.L2.PTs.imp {X : Cx} {e : List Expr} {t t' : TT} (h : PTs X e t) (m : ∀ σ H Q, t' σ H Q → t σ H Q) : PTs X e t' := ⟨fun pins s σ H Q I q => h.run pins s σ H Q I (m σ H Q q)⟩
theorem f_nil {X : Cx} {K : PySem.W.Frag} {G : Gm} : PTs X [] (tTL K G []) := pts_nil.imp fun σ H Q ⟨F, env, c, o, hc, k⟩ => by
  cases hc; exact k _ _ (.refl F H) o.le
theorem f_one {X : Cx} {K : PySem.W.Frag} {G : Gm} {p : C} {mp : Expr} (h : PT X mp (tT K G p)) : PTs X [mp] (tTL K G [p]) := (pts_one h).imp fun σ H Q ⟨F, env, c, o, hc, k⟩ => by
  obtain ⟨c', h1, h2⟩ := Option.bind_eq_some_iff.mp (show (ts G env p).bind _ = some c from hc)
  have : c' = c := by cases c' <;> cases h2 <;> rfl
  subst this
  exact ⟨F, env, _, o, h1, fun F' H' x l => k F' H' x l⟩

/-! ### [e for t in .. if ..] -/
theorem compL_some {f : D → Option (Option D)} : ∀ {xs ys : List D}, compL f xs = some ys → ∃ rs : List (Option D), rs.length = xs.length ∧ (∀ (i : Nat) (x : D), xs[i]? = some x → ∃ r, rs[i]? = some r ∧ f x = some r) ∧ ys = rs.filterMap id
  | [], ys, h => by cases h; exact ⟨[], rfl, fun i x h => by simp at h, rfl⟩
  | x :: xs, ys, h => by
    obtain ⟨r, hr, h⟩ := Option.bind_eq_some_iff.mp (show (f x).bind _ = some ys from h)
    obtain ⟨zs, hz, e⟩ := Option.map_eq_some_iff.mp h
    obtain ⟨rs, hl, ha, rfl⟩ := compL_some hz
    refine ⟨r :: rs, by simp [hl], fun i y hy => ?_, ?_⟩
    · cases i with
      | zero => simp at hy; subst hy; exact ⟨r, rfl, hr⟩
      | succ i => simpa using ha i y (by simpa using hy)
    · subst e
      cases r <;> rfl
theorem take_fm {rs : List (Option D)} {i : Nat} {r : Option D} (h : rs[i]? = some r) : (rs.take (i + 1)).filterMap id = (rs.take i).filterMap id ++ r.toList := by
  rw [List.take_add_one, h, List.filterMap_append]
  cases r <;> rfl
theorem fm_take_le (rs : List (Option D)) (i : Nat) : ((rs.take i).filterMap id).length ≤ (rs.filterMap id).length := by
  conv => rhs; rw [← List.take_append_drop i rs, List.filterMap_append, List.length_append]
  omega
/-- the state ahead of a turn: the new list at D holds rs -/
structure Acc (K : PySem.W.Frag) (F0 H0 : Hp) (σ : St) (env : Env) (τ : St) (ρ : Env) (A : Addr) (rs : List D) (F H : Hp) : Prop where
  ext : Ext F0 H0 F H
  ok : Ok K F H σ env
  ok2 : Ok K F H τ ρ
  df : F A = none
  it : ∃ acc, H A = some (.lst acc) ∧ RepL K F rs acc
section
variable {K : PySem.W.Frag} {F0 H0 F H F' H' : Hp} {σ τ : St} {env ρ : Env} {A : Addr} {rs : List D}
/-- A is no name's own -/
def NoOwn (σ : St) (env : Env) (A : Addr) : Prop := ∀ (i : Nat) (d : D), env[i]? = some (.own d) → σ[i]? ≠ some (some (.ref A))
theorem Acc.ext' (a : Acc K F0 H0 σ env τ ρ A rs F H) (x : Ext F H F' H') (l : FLe F' H') : Acc K F0 H0 σ env τ ρ A rs F' H' := by
  obtain ⟨acc, h1, r⟩ := a.it
  exact ⟨a.ext.trans x, a.ok.ext x l, a.ok2.ext x l, (x.n A _ h1 rfl).trans a.df, acc, x.h A _ h1, r.mono x.f⟩
theorem Ok.write (o : Ok K F H σ env) (hn : NoOwn σ env A) (hf : F A = none) {u : HO} : Ok K F (upd H A u) σ env :=
  ⟨fun b w e => by rw [upd_ne (ne_of_none e hf)]; exact o.le b w e, o.en.len, o.en.val, fun i e h => by
    obtain ⟨b, e1, e2, w⟩ := o.en.own i e h
    have : b ≠ A := fun z => hn i e h (by rw [← z]; exact e1)
    exact ⟨b, e1, e2, w.mono (.refl F) fun u q => by rw [upd_ne this]; exact q⟩, o.en.sep⟩
/-- the list gets one more -/
theorem Acc.push (a : Acc K F0 H0 σ env τ ρ A rs F H) (hD : H0 A = none) (hno : NoOwn σ env A) (hn2 : NoOwn τ ρ A) {acc : List V} {d : D} {v : V} (h1 : H A = some (.lst acc)) (r : RepL K F rs acc) (rd : Rep K F d v) :
    Acc K F0 H0 σ env τ ρ A (rs ++ [d]) F (upd H A (.lst (acc ++ [v]))) := by
  refine ⟨⟨a.ext.f, fun b u e => ?_, a.ext.n⟩, a.ok.write hno a.df, a.ok2.write hn2 a.df, a.df, _, upd_same, r.append (.one rd)⟩
  rw [upd_ne (ne_of_none e hD)]; exact a.ext.h b u e
end
theorem own_ne {K : PySem.W.Frag} {F H : Hp} {σ : St} {env : Env} {A : Addr} (o : Ok K F H σ env) (n : H A = none) : NoOwn σ env A := fun i d h e => by
  obtain ⟨a, e1, _, w⟩ := o.en.own i d h
  rw [e] at e1; cases e1
  obtain ⟨u, hu, _⟩ := w.there
  rw [n] at hu; cases hu
/-- a target of the comprehension's own names -/
theorem own_tgt {σ σ2 : St} {t : T} {own : List Nat} (hn : ∀ j ∈ T.names t, j ∈ own) (hl : σ2.length = (wipe σ own).length) (hs : ∀ j, j ∉ T.names t → σ2[j]? = (wipe σ own)[j]?) : wipe σ2 own = wipe σ own :=
  wipe_congr (by rw [hl, wipe_length]) fun j hj => by
    rw [hs j fun z => hj (hn j z), wipe_get, if_neg hj]
/-- one clause's turns -/
theorem lc_turns {K : PySem.W.Frag} {G : Gm} {F0 H0 F1 : Hp} {σ τ : St} {env ρ : Env} {A : Addr} {Qd : Hp → Prop} {J : It} {xs : List D} {rs : List (Option D)} {e : E} {t : T} {fs : List C} {own : List Nat} {base : List D}
    (W : WalkD K (SM false K σ env F1) xs J) (hD : H0 A = none) (hno : NoOwn σ env A) (hn2 : NoOwn τ ρ A)
    (hnm : ∀ j ∈ T.names t, j ∈ own) (hl : rs.length = xs.length) (hr : ∀ (i : Nat) (x : D), xs[i]? = some x → ∃ r, rs[i]? = some r ∧ ((bind t x (env.kill own)).bind fun env' => (tsL G env' fs).bind fun c => if c then (ev G env' e).map some else some none) = some r)
    (hsz : base.length + (rs.filterMap id).length ≤ line) {H2 : Hp} (start : Acc K F0 H0 σ env τ ρ A base F1 H2) (fin : ∀ F H, Acc K F0 H0 σ env τ ρ A (base ++ rs.filterMap id) F H → FMono F1 F → Qd H) :
    ∃ W : Nat → Nat → Hp → Prop, (∃ m, W 0 m H2) ∧ ∀ i m H, W i m H →
      (J.stop i H ∧ Qd H) ∨ (J.go i H ∧ ∃ Nx : Hp → Prop, (∀ H', Nx H' → ∃ m', m' < m ∧ W (i + 1) m' H') ∧ ∀ x H', J.yld i H x H' → tG K t x (wipe σ own) H' fun σ2 H2 => wipe σ2 own = wipe σ own ∧ tTL K G fs σ2 H2 fun b H3 =>
        if b = true then tD K G e σ2 H3 fun y H4 => ∃ acc, H4 A = some (.lst acc) ∧ acc.length < sizeLine ∧ Nx (upd H4 A (.lst (acc ++ [y]))) else Nx H3) := by
  refine ⟨fun i m H => m = xs.length - i ∧ i ≤ xs.length ∧ ∃ F, FMono F1 F ∧ Acc K F0 H0 σ env τ ρ A (base ++ (rs.take i).filterMap id) F H, ⟨xs.length, by simp, Nat.zero_le _, F1, .refl _, by simpa using start⟩, ?_⟩
  rintro i m H ⟨rfl, hi, F, hm, a⟩
  have hS : SM false K σ env F1 F H := ⟨hm, a.ok.le, fun _ => a.ok⟩
  by_cases hlt : i < xs.length
  · refine .inr ⟨W.go i F H hS hlt, fun H => ∃ F, FMono F1 F ∧ Acc K F0 H0 σ env τ ρ A (base ++ (rs.take (i + 1)).filterMap id) F H, fun H' n => ⟨xs.length - (i + 1), by omega, rfl, hlt, n⟩, fun x H' y => ?_⟩
    obtain ⟨F3, d, x3, l3, hd, rd⟩ := W.yld i F H x H' hS hlt y
    obtain ⟨r, hri, hf⟩ := hr i d hd
    obtain ⟨env2, hb, hf⟩ := Option.bind_eq_some_iff.mp hf
    obtain ⟨c, hc, hf⟩ := Option.bind_eq_some_iff.mp hf
    have a3 := a.ext' x3 l3
    refine ⟨F3, _, d, env2, ⟨l3, a3.ok.en.wipe own⟩, rd, hb, fun σ2 o2 ln2 sm2 => ⟨own_tgt hnm ln2 sm2, F3, env2, c, o2, hc, fun F4 H4 x4 l4 => ?_⟩⟩
    have a4 := a3.ext' x4 l4
    cases c with
    | false =>
      cases hf
      refine iteF ?_
      exact ⟨F4, (hm.trans x3.f).trans x4.f, by rw [take_fm hri]; simpa using a4⟩
    | true =>
      obtain ⟨z, hz, rfl⟩ := Option.map_eq_some_iff.mp (show (ev G env2 e).map some = some r from hf)
      refine iteT ?_
      refine ⟨F4, env2, z, o2.ext x4 l4, hz, fun F5 H5 v x5 l5 r5 => ?_⟩
      have a5 := a4.ext' x5 l5
      obtain ⟨acc, h1, racc⟩ := a5.it
      refine ⟨acc, h1, ?_, F5, ((hm.trans x3.f).trans x4.f).trans x5.f, ?_⟩
      · have e1 := racc.length
        have e2 := fm_take_le rs (i + 1)
        rw [take_fm hri] at e2
        simp only [List.length_append, Option.toList_some, List.length_cons, List.length_nil] at e1 e2
        rw [line_eq]; omega
      · rw [take_fm hri, ← List.append_assoc]
        exact a5.push hD hno hn2 h1 racc r5
  · have e : i = xs.length := by omega
    subst e
    refine .inl ⟨W.stop F H hS, fin F H ?_ hm⟩
    rw [List.take_of_length_le (by omega)] at a
    exact a
section
variable {X : Cx} {G : Gm} {k : IK} {es : List E} {e : E} {t : T} {fs : List C} {elt tg iter : Expr} {ifs : List Expr} {scope : Scope} {own : List (Str × Nat)} {pos : Pos}
theorem lc_reads (hnm : ∀ j ∈ T.names t, j ∈ own.map (·.2)) {σ : St} {H : Hp} {Q : VK} (h : tN X.K G (.comp e t k es fs (own.map (·.2))) σ H Q) : tLc (tI false X.K G k es) (tG X.K t) (tTL X.K G fs) (tD X.K G e) (own.map (·.2)) σ H Q := by
  obtain ⟨F, env, d, o, hd, q⟩ := h
  obtain ⟨vs, hv, hd⟩ := Option.bind_eq_some_iff.mp (show (evB G env es).bind _ = some d from hd)
  obtain ⟨xs, hx, hd⟩ := Option.bind_eq_some_iff.mp hd
  obtain ⟨ys, hy, hd⟩ := Option.bind_eq_some_iff.mp hd
  obtain ⟨rs, hl, hr, rfl⟩ := compL_some hy
  have hz : (rs.filterMap id).length ≤ line := Decidable.byContradiction fun n => by unfold fits at hd; rw [if_neg n] at hd; cases hd
  unfold fits at hd
  rw [if_pos hz] at hd
  cases hd
  refine ⟨F, env, vs, xs, o, hv, hx, fun F1 H1 J x1 l1 W A nA => ?_⟩
  have o1 := o.ext x1 l1
  have nA0 : H A = none := by
    cases e : H A with
    | none => rfl
    | some u => rw [x1.h A u e] at nA; cases nA
  have nf := l1.free nA
  have st : Acc X.K F H σ env σ env A [] F1 (upd H1 A (.lst [])) := ⟨x1.trans (.made nA), o1.ext (.made nA) (l1.made nA), o1.ext (.made nA) (l1.made nA), nf, [], upd_same, rfl⟩
  refine lc_turns W nA0 (own_ne o1 nA) (own_ne o1 nA) hnm hl hr (by simpa using hz) st fun F2 H2 a _ => ?_
  obtain ⟨acc, h1, racc⟩ := a.it
  exact q F2 H2 A a.ext a.ok.le nA0 a.df ⟨acc, h1, racc, hz⟩
end
/-! ### [e for t in .. if .. for t2 in .. if ..] -/
mutual
theorem bind_own : ∀ (t : T) (d : D) {env env' : Env} {i : Nat} {e : D}, bind t d env = some env' → env'[i]? = some (.own e) → env[i]? = some (.own e) ∧ i ∉ T.names t
  | .name j, d, env, env', i, e, h, q => by
    cases h
    rcases set_get q with ⟨_, q, _⟩ | ⟨hj, q⟩
    · cases q
    · exact ⟨q, by simp [T.names, hj]⟩
  | .tup ts, d, env, env', i, e, h, q => by
    cases d <;> (try simp only [bind] at h) <;> try cases h
    · exact bindL_own ts _ h q
    · exact bindL_own ts _ h q
theorem bindL_own : ∀ (ts : List T) (ds : List D) {env env' : Env} {i : Nat} {e : D}, bindL ts ds env = some env' → env'[i]? = some (.own e) → env[i]? = some (.own e) ∧ i ∉ T.namesL ts
  | [], [], env, env', i, e, h, q => by cases h; exact ⟨q, by simp [T.namesL]⟩
  | [], _ :: _, env, env', i, e, h, q => by cases h
  | _ :: _, [], env, env', i, e, h, q => by cases h
  | t :: ts, d :: ds, env, env', i, e, h, q => by
    obtain ⟨e1, h1, h2⟩ := Option.bind_eq_some_iff.mp (show (bind t d env).bind _ = some env' from h)
    obtain ⟨q1, n1⟩ := bindL_own ts ds h2 q
    obtain ⟨q2, n2⟩ := bind_own t d h1 q1
    exact ⟨q2, by simp [T.namesL, n1, n2]⟩
end
theorem kill_own {env : Env} {vs : List Nat} {i : Nat} {e : D} (h : (env.kill vs)[i]? = some (.own e)) : env[i]? = some (.own e) ∧ i ∉ vs := by
  rw [kill_get] at h
  split at h
  · cases q : env[i]? with
    | none => rw [q] at h; cases h
    | some z => rw [q] at h; cases h
  · exact ⟨h, ‹_›⟩
theorem NoOwn.bound {σ σ2 : St} {env env2 : Env} {A : Addr} {t : T} {d : D} {own : List Nat} (h : NoOwn σ env A) (hb : bind t d (env.kill own) = some env2) (hs : ∀ j, j ∉ T.names t → σ2[j]? = (wipe σ own)[j]?) : NoOwn σ2 env2 A := fun i e q => by
  obtain ⟨q1, n1⟩ := bind_own t d hb q
  obtain ⟨q2, n2⟩ := kill_own q1
  rw [hs i n1, wipe_get, if_neg n2]
  exact h i e q2
theorem compLL_some {f : D → Option (List D)} : ∀ {xs ys : List D}, compLL f xs = some ys → ∃ rs : List (List D), rs.length = xs.length ∧ (∀ (i : Nat) (x : D), xs[i]? = some x → ∃ r, rs[i]? = some r ∧ f x = some r) ∧ ys = rs.flatten
  | [], ys, h => by cases h; exact ⟨[], rfl, fun i x h => by simp at h, rfl⟩
  | x :: xs, ys, h => by
    obtain ⟨r, hr, h⟩ := Option.bind_eq_some_iff.mp (show (f x).bind _ = some ys from h)
    obtain ⟨zs, hz, e⟩ := Option.map_eq_some_iff.mp h
    obtain ⟨rs, hl, ha, rfl⟩ := compLL_some hz
    refine ⟨r :: rs, by simp [hl], fun i y hy => ?_, by simp [← e]⟩
    cases i with
    | zero => simp at hy; subst hy; exact ⟨r, rfl, hr⟩
    | succ i => simpa using ha i y (by simpa using hy)
theorem take_fl {rs : List (List D)} {i : Nat} {r : List D} (h : rs[i]? = some r) : (rs.take (i + 1)).flatten = (rs.take i).flatten ++ r := by
  rw [List.take_add_one, h]
  simp
theorem fl_take_le (rs : List (List D)) (i : Nat) : (rs.take i).flatten.length ≤ rs.flatten.length := by
  conv => rhs; rw [← List.take_append_drop i rs, List.flatten_append, List.length_append]
  omega
section
variable {X : Cx} {G : Gm} {k k2 : IK} {es es2 : List E} {e : E} {t t2 : T} {fs fs2 : List C} {own : List (Str × Nat)} {vs1 : List Nat}
theorem lc2_reads (hnm : ∀ j ∈ T.names t, j ∈ own.map (·.2)) (hnm2 : ∀ j ∈ T.names t2, j ∈ vs1) {σ : St} {H : Hp} {Q : VK} (h : tN X.K G (.comp2 e t k es fs t2 k2 es2 fs2 (own.map (·.2)) vs1) σ H Q) :
    tLc2 (tI false X.K G k es) (tG X.K t) (tTL X.K G fs) (tI false X.K G k2 es2) (tG X.K t2) (tTL X.K G fs2) (tD X.K G e) (own.map (·.2)) vs1 σ H Q := by
  obtain ⟨F, env, d, o, hd, q⟩ := h
  obtain ⟨vs, hv, hd⟩ := Option.bind_eq_some_iff.mp (show (evB G env es).bind _ = some d from hd)
  obtain ⟨xs, hx, hd⟩ := Option.bind_eq_some_iff.mp hd
  obtain ⟨ys, hy, hd⟩ := Option.bind_eq_some_iff.mp hd
  obtain ⟨rs, hl, hr, rfl⟩ := compLL_some hy
  have hz : rs.flatten.length ≤ line := Decidable.byContradiction fun n => by unfold fits at hd; rw [if_neg n] at hd; cases hd
  unfold fits at hd
  rw [if_pos hz] at hd
  cases hd
  refine ⟨F, env, vs, xs, o, hv, hx, fun F1 H1 J x1 l1 W A nA => ?_⟩
  have o1 := o.ext x1 l1
  have nA0 : H A = none := by
    cases e : H A with
    | none => rfl
    | some u => rw [x1.h A u e] at nA; cases nA
  have nf := l1.free nA
  have no := own_ne o1 nA
  have st : Acc X.K F H σ env σ env A [] F1 (upd H1 A (.lst [])) := ⟨x1.trans (.made nA), o1.ext (.made nA) (l1.made nA), o1.ext (.made nA) (l1.made nA), nf, [], upd_same, rfl⟩
  refine ⟨fun i m H' => m = xs.length - i ∧ i ≤ xs.length ∧ ∃ F', FMono F1 F' ∧ Acc X.K F H σ env σ env A (rs.take i).flatten F' H', ⟨xs.length, by simp, Nat.zero_le _, F1, .refl _, by simpa using st⟩, ?_⟩
  rintro i m H2 ⟨rfl, hi, F2, hm, a⟩
  have hS : SM false X.K σ env F1 F2 H2 := ⟨hm, a.ok.le, fun _ => a.ok⟩
  by_cases hlt : i < xs.length
  · refine .inr ⟨W.go i F2 H2 hS hlt, fun H' => ∃ F', FMono F1 F' ∧ Acc X.K F H σ env σ env A (rs.take (i + 1)).flatten F' H', fun H' n => ⟨xs.length - (i + 1), by omega, rfl, hlt, n⟩, fun x H' y => ?_⟩
    obtain ⟨F3, d, x3, l3, hd, rd⟩ := W.yld i F2 H2 x H' hS hlt y
    obtain ⟨r, hri, hf⟩ := hr i d hd
    obtain ⟨env2, hb, hf⟩ := Option.bind_eq_some_iff.mp hf
    obtain ⟨c, hc, hf⟩ := Option.bind_eq_some_iff.mp hf
    have a3 := a.ext' x3 l3
    refine ⟨F3, _, d, env2, ⟨l3, a3.ok.en.wipe _⟩, rd, hb, fun σ2 o2 ln2 sm2 => ⟨own_tgt hnm ln2 sm2, F3, env2, c, o2, hc, fun F4 H4 x4 l4 => ?_⟩⟩
    have a4 := a3.ext' x4 l4
    have hm4 := (hm.trans x3.f).trans x4.f
    cases c with
    | false =>
      cases hf
      refine iteF ?_
      exact ⟨F4, hm4, by rw [take_fl hri]; simpa using a4⟩
    | true =>
      refine iteT ?_
      obtain ⟨ws, hws, hf⟩ := Option.bind_eq_some_iff.mp (show (evB G env2 es2).bind _ = some r from hf)
      obtain ⟨zs, hzs, hf⟩ := Option.bind_eq_some_iff.mp hf
      obtain ⟨qs, hql, hqr, rfl⟩ := compL_some hf
      have o4 := o2.ext x4 l4
      refine ⟨F4, env2, ws, zs, o4, hws, hzs, fun F5 H5 J1 x5 l5 W1 => ?_⟩
      have a5 := a4.ext' x5 l5
      have sz : (rs.take i).flatten.length + (qs.filterMap id).length ≤ line := by
        have := fl_take_le rs (i + 1)
        rw [take_fl hri, List.length_append] at this
        omega
      obtain ⟨acc5, h5, r5⟩ := a5.it
      refine lc_turns W1 nA0 (no.bound hb sm2) no hnm2 hql hqr sz ⟨a5.ext, o4.ext x5 l5, a5.ok2, a5.df, acc5, h5, r5⟩ fun F6 H6 a6 m6 => ?_
      exact ⟨F6, (hm4.trans x5.f).trans m6, by rw [take_fl hri]; exact ⟨a6.ext, a6.ok2, a6.ok2, a6.df, a6.it⟩⟩
  · have e : i = xs.length := by omega
    subst e
    rw [List.take_of_length_le (by omega)] at a
    obtain ⟨acc, h1, racc⟩ := a.it
    exact .inl ⟨W.stop F2 H2 hS, q F2 H2 A a.ext a.ok.le nA0 a.df ⟨acc, h1, racc, hz⟩⟩
end
end Rx
end

section
set_option Elab.async false
set_option linter.all false
set_option maxRecDepth 100000
set_option maxHeartbeats 1000000
set_option autoImplicit false
/-! RxStmt: statements. -/
namespace Rx
open PySem PySem.Spec PyProof.Rows L2

theorem r_comp {X : Cx} {G : Gm} {k : IK} {es : List E} {e : E} {t : T} {fs : List C} {elt tg iter : Expr} {ifs : List Expr} {scope : Scope} {own : List (Str × Nat)} {pos : Pos}
    (hnm : ∀ j ∈ T.names t, j ∈ own.map (·.2)) (hc : X.calm = true) (hN : X.N.Nodup) (hi : PI X tg iter (tI false X.K G k es)) (ok : BlkOk X.N X.env.scope scope own)
    (hg : ∀ (s : Shared) (H : Hp) (C : Addr) (cl : List (Str × Addr)) (fp : List Addr), PG (X.blk s H scope (compEnvC scope cl C X.env) fp) tg (tG X.K t)) (ht : ∀ (s : Shared) (H : Hp) (C : Addr) (cl : List (Str × Addr)) (fp : List Addr), PTs (X.blk s H scope (compEnvC scope cl C X.env) fp) ifs (tTL X.K G fs))
    (he : ∀ (s : Shared) (H : Hp) (C : Addr) (cl : List (Str × Addr)) (fp : List Addr), PE (X.blk s H scope (compEnvC scope cl C X.env) fp) elt (tD X.K G e)) (hs : ∀ x, foldedSetIterable iter X.env x = pure x) :
    PE X (.ListComp elt [⟨tg, iter, ifs, 0⟩] scope pos) (tN X.K G (.comp e t k es fs (own.map (·.2)))) := (pe_lc hc hN hi ok hg ht he hs).imp fun _ _ _ h => lc_reads hnm h
theorem r_comp2 {X : Cx} {G : Gm} {k k2 : IK} {es es2 : List E} {e : E} {t t2 : T} {fs fs2 : List C} {elt tg iter tg1 iter1 : Expr} {ifs ifs1 : List Expr} {scope : Scope} {own : List (Str × Nat)} {vs1 : List Nat} {pos : Pos}
    (hnm : ∀ j ∈ T.names t, j ∈ own.map (·.2)) (hnm2 : ∀ j ∈ T.names t2, j ∈ vs1) (hc : X.calm = true) (hN : X.N.Nodup) (hi : PI X tg iter (tI false X.K G k es)) (ok : BlkOk X.N X.env.scope scope own) (hv : ∀ i ∈ vs1, i ∈ own.map (·.2))
    (hg : ∀ (s : Shared) (H : Hp) (C : Addr) (cl : List (Str × Addr)) (fp : List Addr), PG (X.blk s H scope (compEnvC scope cl C X.env) fp) tg (tG X.K t)) (ht : ∀ (s : Shared) (H : Hp) (C : Addr) (cl : List (Str × Addr)) (fp : List Addr), PTs (X.blk s H scope (compEnvC scope cl C X.env) fp) ifs (tTL X.K G fs))
    (hi1 : ∀ (s : Shared) (H : Hp) (C : Addr) (cl : List (Str × Addr)) (fp : List Addr), PI (X.blk s H scope (compEnvC scope cl C X.env) fp) tg1 iter1 (tI false X.K G k2 es2))
    (hg1 : ∀ (s : Shared) (H : Hp) (C : Addr) (cl : List (Str × Addr)) (fp : List Addr), PG (X.blk s H scope (compEnvC scope cl C X.env) fp) tg1 (tG X.K t2)) (ht1 : ∀ (s : Shared) (H : Hp) (C : Addr) (cl : List (Str × Addr)) (fp : List Addr), PTs (X.blk s H scope (compEnvC scope cl C X.env) fp) ifs1 (tTL X.K G fs2))
    (he : ∀ (s : Shared) (H : Hp) (C : Addr) (cl : List (Str × Addr)) (fp : List Addr), PE (X.blk s H scope (compEnvC scope cl C X.env) fp) elt (tD X.K G e)) (hs : ∀ x, foldedSetIterable iter X.env x = pure x) (hs1 : ∀ env x, foldedSetIterable iter1 env x = pure x) :
    PE X (.ListComp elt [⟨tg, iter, ifs, 0⟩, ⟨tg1, iter1, ifs1, 0⟩] scope pos) (tN X.K G (.comp2 e t k es fs t2 k2 es2 fs2 (own.map (·.2)) vs1)) := (pe_lc2 hc hN hi ok hv hg ht hi1 hg1 ht1 he hs hs1).imp fun _ _ _ h => lc2_reads hnm hnm2 h

/-! ### where a statement leads -/
/-- an address that some name owns -/
def Own (σ : St) (env : Env) (a : Addr) : Prop := ∃ (i : Nat) (d : D), env[i]? = some (.own d) ∧ σ[i]? = some (some (.ref a))
structure Reach (F H : Hp) (σ : St) (env : Env) (F' H' : Hp) : Prop where
  f : FMono F F'
  h : ∀ a u, H a = some u → ¬ Own σ env a → H' a = some u
  n : ∀ a u, H a = some u → isTupO u = false → ¬ Own σ env a → F' a = F a
  le : FLe F' H'
structure Step (mk : Prop) (K : PySem.W.Frag) (F H : Hp) (σ : St) (env : Env) (F' H' : Hp) (σ' : St) (env' : Env) : Prop where
  re : Reach F H σ env F' H'
  ok : Ok K F' H' σ' env'
  ow : ∀ a, Own σ' env' a → Own σ env a ∨ (H a = none ∧ mk)
section
variable {mk mk2 : Prop} {K : PySem.W.Frag} {F H F1 H1 F2 H2 : Hp} {σ σ1 σ2 : St} {env env1 env2 : Env}
theorem Reach.refl (l : FLe F H) : Reach F H σ env F H := ⟨.refl F, fun _ _ e _ => e, fun _ _ _ _ _ => rfl, l⟩
theorem Step.refl (o : Ok K F H σ env) : Step mk K F H σ env F H σ env := ⟨.refl o.le, o, fun _ h => .inl h⟩
theorem Step.reach (a : Step mk K F H σ env F1 H1 σ1 env1) (b : Reach F1 H1 σ1 env1 F2 H2) : Reach F H σ env F2 H2 := by
  have key : ∀ c u, H c = some u → ¬ Own σ env c → ¬ Own σ1 env1 c := fun c u e n z => by
    rcases a.ow c z with q | ⟨q, _⟩
    · exact n q
    · rw [e] at q; cases q
  exact ⟨a.re.f.trans b.f, fun c u e n => b.h c u (a.re.h c u e n) (key c u e n), fun c u e z n => (b.n c u (a.re.h c u e n) z (key c u e n)).trans (a.re.n c u e z n), b.le⟩
theorem Step.trans (a : Step mk K F H σ env F1 H1 σ1 env1) (b : Step mk K F1 H1 σ1 env1 F2 H2 σ2 env2) : Step mk K F H σ env F2 H2 σ2 env2 := by
  refine ⟨a.reach b.re, b.ok, fun c z => ?_⟩
  rcases b.ow c z with q | ⟨q, m⟩
  · exact a.ow c q
  · by_cases n : Own σ env c
    · exact .inl n
    · right
      refine ⟨?_, m⟩
      cases e : H c with
      | none => rfl
      | some u => rw [a.re.h c u e n] at q; cases q
theorem Step.mono (h : mk → mk2) (a : Step mk K F H σ env F1 H1 σ1 env1) : Step mk2 K F H σ env F1 H1 σ1 env1 := ⟨a.re, a.ok, fun b z => (a.ow b z).imp id fun q => ⟨q.1, h q.2⟩⟩
theorem Reach.of_ext (x : Ext F H F1 H1) (l : FLe F1 H1) : Reach F H σ env F1 H1 := ⟨x.f, fun a u e _ => x.h a u e, fun a u e z _ => x.n a u e z, l⟩
theorem own_set {i : Nat} {d : D} {v : Option V} {a : Addr} (h : Own (σ.set i v) (env.set i (.val d)) a) : Own σ env a := by
  obtain ⟨j, e, h1, h2⟩ := h
  rcases set_get h1 with ⟨_, h, _⟩ | ⟨hj, h1⟩
  · cases h
  · rw [List.getElem?_set_ne (Ne.symm hj)] at h2
    exact ⟨j, e, h1, h2⟩
/-- a name gets a frozen value -/
theorem Step.set (o : Ok K F H σ env) (x : Ext F H F1 H1) (l : FLe F1 H1) {i : Nat} {d : D} {v : V} (r : Rep K F1 d v) : Step mk K F H σ env F1 H1 (σ.set i (some v)) (env.set i (.val d)) :=
  ⟨.of_ext x l, ⟨l, (o.en.ext x).set r⟩, fun a h => .inl (own_set h)⟩
theorem own_setO {i : Nat} {d : D} {b a : Addr} (h : Own (σ.set i (some (.ref b))) (env.set i (.own d)) a) : Own σ env a ∨ a = b := by
  obtain ⟨j, e, h1, h2⟩ := h
  rcases set_get h1 with ⟨rfl, h, hl⟩ | ⟨hj, h1⟩
  · right
    rcases set_get h2 with ⟨_, h, _⟩ | ⟨h, _⟩
    · injection h with h; injection h
    · exact absurd rfl h
  · rw [List.getElem?_set_ne (Ne.symm hj)] at h2
    exact .inl ⟨j, e, h1, h2⟩
/-- a name gets a new object of its own -/
theorem Step.setO (hm : mk) (o : Ok K F H σ env) (x : Ext F H F1 H1) (l : FLe F1 H1) {i : Nat} {d : D} {a : Addr} (n : H a = none) (f : F1 a = none) (w : OwnAt K F1 H1 a d) : Step mk K F H σ env F1 H1 (σ.set i (some (.ref a))) (env.set i (.own d)) :=
  ⟨.of_ext x l, ⟨l, (o.en.ext x).setO f w fun j e _ h => own_ne o n j e h⟩, fun b h => by
    rcases own_setO h with h | rfl
    · exact .inl h
    · exact .inr ⟨n, hm⟩⟩
/-- what a name owns is changed -/
theorem Step.upd (o : Ok K F H σ env) {i : Nat} {d d' : D} {a : Addr} (hi : env[i]? = some (.own d)) (ha : σ[i]? = some (some (.ref a))) {u : HO} (w : OwnAt K F (upd H a u) a d') : Step mk K F H σ env F (upd H a u) σ (env.set i (.own d')) := by
  obtain ⟨a', e1, f, w0⟩ := o.en.own i d hi
  rw [ha] at e1; cases e1
  have lf : FLe F (L2.upd H a u) := fun b z e => by rw [upd_ne (ne_of_none e f)]; exact o.le b z e
  have ow : ∀ {b : Addr}, Own σ (env.set i (.own d')) b → Own σ env b := fun {b} ⟨j, e, h1, h2⟩ => by
    rcases set_get h1 with ⟨rfl, _, _⟩ | ⟨hj, h1⟩
    · exact ⟨j, d, hi, h2⟩
    · exact ⟨j, e, h1, h2⟩
  refine ⟨⟨.refl F, fun b z e n => ?_, fun _ _ _ _ _ => rfl, lf⟩, ⟨lf, by rw [List.length_set]; exact o.en.len, fun j e h => ?_, fun j e h => ?_, fun j k e e' b hjk h1 h2 h3 => ?_⟩, fun b h => .inl (ow h)⟩
  · have : b ≠ a := fun q => n ⟨i, d, hi, by rw [q]; exact ha⟩
    rw [upd_ne this]; exact e
  · rcases set_get h with ⟨_, h, _⟩ | ⟨_, h⟩
    · cases h
    · exact o.en.val j e h
  · rcases set_get h with ⟨rfl, h, _⟩ | ⟨hj, h⟩
    · cases h
      exact ⟨a, ha, f, w⟩
    · obtain ⟨b, e1, e2, wb⟩ := o.en.own j e h
      have : b ≠ a := fun q => o.en.sep i j d e a (Ne.symm hj) hi h ha (by rw [← q]; exact e1)
      exact ⟨b, e1, e2, wb.mono (.refl F) fun z q => by rw [upd_ne this]; exact q⟩
  · have g1 : ∃ e0, env[j]? = some (.own e0) := by
      rcases set_get h1 with ⟨rfl, _, _⟩ | ⟨_, h⟩
      · exact ⟨d, hi⟩
      · exact ⟨e, h⟩
    have g2 : ∃ e0, env[k]? = some (.own e0) := by
      rcases set_get h2 with ⟨rfl, _, _⟩ | ⟨_, h⟩
      · exact ⟨d, hi⟩
      · exact ⟨e', h⟩
    obtain ⟨e0, g1⟩ := g1
    obtain ⟨e1, g2⟩ := g2
    exact o.en.sep j k e0 e1 b hjk g1 g2 h3
theorem Step.kill (o : Ok K F H σ env) (vs : List Nat) : Step mk K F H σ env F H σ (env.kill vs) :=
  ⟨.refl o.le, ⟨o.le, o.en.kill vs⟩, fun a ⟨j, e, h1, h2⟩ => .inl ⟨j, e, (kill_own h1).1, h2⟩⟩
/-- what a name owns is frozen -/
theorem Step.frz (o : Ok K F H σ env) {i : Nat} {d : D} (h : env.bor i = some d) : ∃ F', Step mk K F H σ env F' H σ (env.set i (.val d)) := by
  unfold Env.bor at h
  split at h
  · rename_i z hz
    cases h
    refine ⟨F, .refl o.le, ⟨o.le, ?_⟩, fun a ⟨j, e, h1, h2⟩ => ?_⟩
    · have : env.set i (.val d) = env := by
        apply List.ext_getElem?
        intro j
        by_cases hj : i = j
        · subst hj; rw [List.getElem?_set_self (List.getElem?_eq_some_iff.mp hz).1, hz]
        · rw [List.getElem?_set_ne hj]
      rw [this]; exact o.en
    · rcases set_get h1 with ⟨_, h, _⟩ | ⟨_, h1⟩
      · cases h
      · exact .inl ⟨j, e, h1, h2⟩
  · rename_i z hz
    cases h
    obtain ⟨a, ha, f, w⟩ := o.en.own i d hz
    obtain ⟨ob, hob, r⟩ := w.rep f
    have fm : FMono F (L2.upd F a ob) := .upd f
    have lf : FLe (L2.upd F a ob) H := o.le.freeze hob
    have ow : ∀ {j : Nat} {e : D}, (env.set i (.val d))[j]? = some (.own e) → j ≠ i ∧ env[j]? = some (.own e) := fun {j e} h => by
      rcases set_get h with ⟨_, h, _⟩ | h
      · cases h
      · exact h
    refine ⟨L2.upd F a ob, ⟨fm, fun b u e _ => e, fun b u e _ n => ?_, lf⟩, ⟨lf, by rw [List.length_set]; exact o.en.len, fun j e h => ?_, fun j e h => ?_, fun j k e e' b hjk h1 h2 => o.en.sep j k e e' b hjk (ow h1).2 (ow h2).2⟩, fun b ⟨j, e, h1, h2⟩ => .inl ⟨j, e, (ow h1).2, h2⟩⟩
    · have : b ≠ a := fun q => n ⟨i, d, hz, by rw [q]; exact ha⟩
      rw [upd_ne this]
    · rcases set_get h with ⟨rfl, h, _⟩ | ⟨_, h⟩
      · cases h; exact ⟨_, ha, r⟩
      · obtain ⟨v, h1, h2⟩ := o.en.val j e h
        exact ⟨v, h1, h2.mono fm⟩
    · obtain ⟨hj, h⟩ := ow h
      obtain ⟨b, e1, e2, wb⟩ := o.en.own j e h
      have : b ≠ a := fun q => o.en.sep i j d e a (Ne.symm hj) hz h ha (by rw [← q]; exact e1)
      exact ⟨b, e1, by rw [upd_ne this]; exact e2, wb.mono fm fun _ q => q⟩
  · cases h
/-- x = y, y's own object going to x -/
theorem Step.move (o : Ok K F H σ env) {i j : Nat} {d : D} {a : Addr} (hij : i ≠ j) (hj : env[j]? = some (.own d)) (ha : σ[j]? = some (some (.ref a))) : Step mk K F H σ env F H (σ.set i (some (.ref a))) ((env.set j .unk).set i (.own d)) := by
  obtain ⟨a', e1, f, w⟩ := o.en.own j d hj
  rw [ha] at e1; cases e1
  have ek : EnvOk K F H σ (env.set j .unk) := (Step.kill (mk := True) o [j]).ok.en
  refine ⟨.refl o.le, ⟨o.le, ek.setO f w fun k e _ h => ?_⟩, fun b h => .inl ?_⟩
  · rcases set_get h with ⟨_, h, _⟩ | ⟨hk, h⟩
    · cases h
    · exact o.en.sep j k d e a (Ne.symm hk) hj h ha
  · rcases own_setO h with ⟨k, e, h1, h2⟩ | rfl
    · rcases set_get h1 with ⟨_, h, _⟩ | ⟨_, h1⟩
      · cases h
      · exact ⟨k, e, h1, h2⟩
    · exact ⟨j, d, hj, ha⟩
end
/-! ### statements -/
mutual
/-- whether a name may come to own something new -/
def mkS : S → Bool
  | .asgO _ _ => true
  | .asgP _ _ => true
  | .ifs _ a b => mkSs a || mkSs b
  | .whl _ b _ => mkSs b
  | .for_ _ _ _ b _ => mkSs b
  | _ => false
def mkSs : List S → Bool
  | [] => false
  | s :: ss => mkS s || mkSs ss
end
/-- what is wanted behind -/
def Post (mk : Prop) (K : PySem.W.Frag) (F H : Hp) (σ : St) (env : Env) (r : Fl × Env) (D : Ends) : Prop := match r.1 with
  | .nx => ∀ F' H' σ', Step mk K F H σ env F' H' σ' r.2 → D.nx σ' H'
  | .brk => ∀ F' H' σ', Step mk K F H σ env F' H' σ' r.2 → D.bk σ' H'
  | .rt d => ∀ F' H' v, Reach F H σ env F' H' → Rep K F' d v → D.rt v H'
def tS (K : PySem.W.Frag) (G GI : Gm) (s : S) : TS := fun D σ H => ∃ F env r, Ok K F H σ env ∧ ex G GI env s = some r ∧ Post (mkS s = true) K F H σ env r D
def tSs (K : PySem.W.Frag) (G GI : Gm) (ss : List S) : TS := fun D σ H => ∃ F env r, Ok K F H σ env ∧ exs G GI env ss = some r ∧ Post (mkSs ss = true) K F H σ env r D
theorem _root_.L2.PS.imp {X : Cx} {st : Stmt} {t t' : TS} (h : PS X st t) (m : ∀ D σ H, t' D σ H → t D σ H) : PS X st t' := ⟨fun pins s σ H D I q => h.run pins s σ H D I (m D σ H q)⟩
theorem _root_.L2.PS.or {X : Cx} {st : Stmt} {t t' : TS} (h : PS X st t) (h' : PS X st t') : PS X st (fun D σ H => t D σ H ∨ t' D σ H) := ⟨fun pins s σ H D I q => q.elim (h.run pins s σ H D I) (h'.run pins s σ H D I)⟩
theorem _root_.L2.PSs.imp {X : Cx} {st : List Stmt} {t t' : TS} (h : PSs X st t) (m : ∀ D σ H, t' D σ H → t D σ H) : PSs X st t' := ⟨fun pins s σ H D I q => h.run pins s σ H D I (m D σ H q)⟩
section
variable {mk mk2 : Prop} {X : Cx} {G GI : Gm} {K : PySem.W.Frag} {F H F1 H1 : Hp} {σ σ1 : St} {env env1 : Env} {e : E} {me : Expr} {mst : Stmt} {msts : List Stmt} {st : S} {sts : List S} {pos : Pos} {En : Ends}
theorem Post.after {r : Fl × Env} (p : Post mk K F H σ env r En) (s : Step mk K F H σ env F1 H1 σ1 env1) : Post mk K F1 H1 σ1 env1 r En := by
  obtain ⟨f, e'⟩ := r
  cases f with
  | nx => exact fun F' H' σ' q => p F' H' σ' (s.trans q)
  | brk => exact fun F' H' σ' q => p F' H' σ' (s.trans q)
  | rt d => exact fun F' H' v q r => p F' H' v (s.reach q) r
theorem Post.mono {r : Fl × Env} (h : mk → mk2) (p : Post mk2 K F H σ env r En) : Post mk K F H σ env r En := by
  obtain ⟨f, e'⟩ := r
  cases f with
  | nx => exact fun F' H' σ' q => p F' H' σ' (q.mono h)
  | brk => exact fun F' H' σ' q => p F' H' σ' (q.mono h)
  | rt d => exact p
theorem orT1 {a b : Bool} (h : a = true) : (a || b) = true := by rw [h]; rfl
theorem orT2 {a b : Bool} (h : b = true) : (a || b) = true := by rw [h, Bool.or_true]
/-- behind a statement the others -/
theorem Post.seq {r r' : Fl × Env} (p : Post (mkSs (st :: sts) = true) K F H σ env r En) (h : seqS (some r') (fun e => exs G GI e sts) = some r) : Post (mkS st = true) K F H σ env r' { En with nx := tSs K G GI sts En } := by
  obtain ⟨f, e'⟩ := r'
  cases f with
  | nx => exact fun F' H' σ' q => ⟨F', e', r, q.ok, h, Post.mono (fun z => orT2 z) (p.after (q.mono fun z => orT1 z))⟩
  | brk => cases h; exact fun F' H' σ' q => p F' H' σ' (q.mono fun z => orT1 z)
  | rt d => cases h; exact p
theorem s_nil : PSs X [] (tSs K G GI []) := pss_nil.imp fun D σ H ⟨F, env, r, o, h, p⟩ => by
  cases h; exact p F H σ (.refl o)
theorem s_cons (h1 : PS X mst (tS K G GI st)) (h2 : PSs X msts (tSs K G GI sts)) : PSs X (mst :: msts) (tSs K G GI (st :: sts)) := (pss_cons h1 h2).imp fun D σ H ⟨F, env, r, o, h, p⟩ => by
  obtain ⟨r', h', _⟩ := Option.bind_eq_some_iff.mp (show (ex G GI env st).bind _ = some r from h)
  have h'' : seqS (some r') (fun e => exs G GI e sts) = some r := by
    have : seqS (ex G GI env st) (fun e => exs G GI e sts) = some r := h
    rwa [h'] at this
  exact ⟨F, env, r', o, h', p.seq h''⟩
theorem s_frz {i : Nat} (h : PSs X msts (tSs K G GI sts)) : PSs X msts (tSs K G GI (.frz i :: sts)) := h.imp fun D σ H ⟨F, env, r, o, hx, p⟩ => by
  obtain ⟨d, hd, hx⟩ := Option.bind_eq_some_iff.mp (show (((env.bor i).map fun d => (Fl.nx, env.set i (.val d))).bind fun r => match r.1 with | .nx => exs G GI r.2 sts | _ => some r) = some r from hx)
  obtain ⟨d', hd', rfl⟩ := Option.map_eq_some_iff.mp hd
  obtain ⟨F', s⟩ := Step.frz (mk := mkSs sts = true) o hd'
  exact ⟨F', _, r, s.ok, hx, p.after s⟩
theorem s_kill {is : List Nat} (h : PSs X msts (tSs K G GI sts)) : PSs X msts (tSs K G GI (.kill is :: sts)) := h.imp fun D σ H ⟨F, env, r, o, hx, p⟩ => ⟨F, _, r, (Step.kill (mk := True) o is).ok, hx, p.after (Step.kill o is)⟩

/-! assignments -/
theorem s_asg {i : Nat} (h : PS X mst (tAsg (tD K G e) (gName i))) : PS X mst (tS K G GI (.asg i e)) := h.imp fun D σ H ⟨F, env, r, o, hx, p⟩ => by
  obtain ⟨d, hd, rfl⟩ := Option.map_eq_some_iff.mp (show (ev G env e).map _ = some r from hx)
  exact ⟨F, env, d, o, hd, fun F' H' v x l r => p F' H' _ (.set o x l r)⟩
theorem s_asgO {i : Nat} (h : PS X mst (tAsg (tN K G e) (gName i))) : PS X mst (tS K G GI (.asgO i e)) := h.imp fun D σ H ⟨F, env, r, o, hx, p⟩ => by
  have hn : isNew e = true := Decidable.byContradiction fun n => by
    have : (if isNew e = true then (ev G env e).map fun d => (Fl.nx, env.set i (.own d)) else none) = some r := hx
    rw [if_neg n] at this; cases this
  have hx : (if isNew e = true then (ev G env e).map fun d => (Fl.nx, env.set i (.own d)) else none) = some r := hx
  rw [if_pos hn] at hx
  obtain ⟨d, hd, rfl⟩ := Option.map_eq_some_iff.mp hx
  exact ⟨F, env, d, o, hd, fun F' H' a x l n f w => p F' H' _ (.setO rfl o x l n f w)⟩
theorem tAsg_frz {i : Nat} {D : Ends} (h : tAsg (tD K G e) (gName i) D σ H) : tAsg (tN K G e) (gName i) D σ H := by
  obtain ⟨F, env, d, o, hd, k⟩ := h
  refine ⟨F, env, d, o, hd, fun F' H' a x l n f w => ?_⟩
  obtain ⟨ob, h1, r⟩ := w.rep f
  exact k _ _ _ (x.freeze n f) (l.freeze h1) r
theorem s_move {i j : Nat} (hij : i ≠ j) (h : PS X mst (tAsg (L2.tVar j) (gName i))) : PS X mst (tS K G GI (.move i j)) := h.imp fun D σ H ⟨F, env, r, o, hx, p⟩ => by
  obtain ⟨d, hd, rfl⟩ := Option.map_eq_some_iff.mp (show (env.ow j).map _ = some r from hx)
  unfold Env.ow at hd
  split at hd
  · rename_i z hz
    cases hd
    obtain ⟨a, ha, _, _⟩ := o.en.own j d hz
    exact ⟨_, ha, p F H _ (.move o hij hz ha)⟩
  · cases hd
theorem ow_some {i : Nat} {d : D} (h : env.ow i = some d) : env[i]? = some (.own d) := by
  unfold Env.ow at h
  split at h
  · rename_i z hz; cases h; exact hz
  · cases h
/-- a, (b, c) = e -/
theorem s_asgT {t : T} (h : PS X mst (tAsg (tD K G e) (tG K t))) : PS X mst (tS K G GI (.asgT t e)) := h.imp fun D σ H ⟨F, env, r, o, hx, p⟩ => by
  obtain ⟨d, hd, hx⟩ := Option.bind_eq_some_iff.mp (show (ev G env e).bind _ = some r from hx)
  obtain ⟨env', hb, rfl⟩ := Option.map_eq_some_iff.mp hx
  refine ⟨F, env, d, o, hd, fun F' H' v x l r => ⟨F', env, d, env', o.ext x l, r, hb, fun σ' o' _ sm => p F' H' σ' ⟨.of_ext x l, o', fun a ⟨j, e, h1, h2⟩ => ?_⟩⟩⟩
  obtain ⟨q1, n1⟩ := bind_own t d hb h1
  rw [sm j n1] at h2
  exact .inl ⟨j, e, q1, h2⟩
theorem s_ret (h : PE X me (tD K G e)) : PS X (.Return (some me) pos) (tS K G GI (.ret e)) := (ps_ret h).imp fun D σ H ⟨F, env, r, o, hx, p⟩ => by
  obtain ⟨d, hd, rfl⟩ := Option.map_eq_some_iff.mp (show (ev G env e).map _ = some r from hx)
  exact ⟨F, env, d, o, hd, fun F' H' v x l r => p F' H' v (.of_ext x l) r⟩
theorem s_brk : PS X (.Break pos) (tS K G GI .brk) := ps_break.imp fun D σ H ⟨F, env, r, o, hx, p⟩ => by
  cases hx; exact p F H σ (.refl o)
theorem s_if {mc : Expr} {c : C} {as bs : List S} {mas mbs : List Stmt} (hc : PT X mc (tT K G c)) (ha : PSs X mas (tSs K G GI as)) (hb : PSs X mbs (tSs K G GI bs)) : PS X (.If mc mas mbs pos) (tS K G GI (.ifs c as bs)) := (ps_if hc ha hb).imp fun D σ H ⟨F, env, r, o, hx, p⟩ => by
  obtain ⟨b, hb, hx⟩ := Option.bind_eq_some_iff.mp (show (ts G env c).bind _ = some r from hx)
  refine ⟨F, env, b, o, hb, fun F' H' x l => ?_⟩
  have s : Step (mkS (.ifs c as bs) = true) K F H σ env F' H' σ env := ⟨.of_ext x l, o.ext x l, fun _ h => .inl h⟩
  cases b with
  | true => exact iteT ⟨F', env, r, o.ext x l, hx, Post.mono (fun z => orT1 z) (p.after s)⟩
  | false => exact iteF ⟨F', env, r, o.ext x l, hx, Post.mono (fun z => orT2 z) (p.after s)⟩
/-- while -/
theorem s_whl {mc : Expr} {c : C} {bs : List S} {mbs : List Stmt} {kl : List Nat} (hp : PassesOwn (model X.prog X.w) X.A X.env X.xe) (hc : PT X mc (tT K G c)) (hb : PSs X mbs (tSs K G GI bs)) : PS X (.While mc mbs [] pos) (tS K G GI (.whl c bs kl)) := (ps_while hp hc hb).imp fun D σ H ⟨F, env, r, o, hx, p⟩ => by
  refine ⟨fun m σ1 H1 => ∃ F1 env1, Step (mkSs bs = true) K F H σ env F1 H1 σ1 env1 ∧ whlL (fun e => ts G e c) (fun e => exs G GI e bs) kl m env1 = some r, ⟨1000000, F, env, .refl o, hx⟩, ?_⟩
  rintro m σ1 H1 ⟨F1, env1, s1, h1⟩
  cases m with
  | zero => cases h1
  | succ m =>
    obtain ⟨b, hb, h1⟩ := Option.bind_eq_some_iff.mp (show (ts G env1 c).bind _ = some r from h1)
    refine ⟨F1, env1, b, s1.ok, hb, fun F2 H2 x l => ?_⟩
    have s2 : Step (mkSs bs = true) K F H σ env F2 H2 σ1 env1 := s1.trans ⟨.of_ext x l, s1.ok.ext x l, fun _ h => .inl h⟩
    cases b with
    | false =>
      cases h1
      exact iteF (p F2 H2 σ1 (s2.trans (.kill s2.ok kl)))
    | true =>
      refine iteT ⟨fun σ' H' => ∃ F' env', Step (mkSs bs = true) K F H σ env F' H' σ' env' ∧ whlL (fun e => ts G e c) (fun e => exs G GI e bs) kl m env' = some r, fun σ' H' n => ⟨m, Nat.lt_succ_self m, n⟩, ?_⟩
      obtain ⟨r1, hr1, h1⟩ := Option.bind_eq_some_iff.mp (show (exs G GI env1 bs).bind _ = some r from h1)
      refine ⟨F2, env1, r1, s2.ok, hr1, ?_⟩
      obtain ⟨f, e1⟩ := r1
      cases f with
      | nx => exact fun F' H' σ' s => ⟨F', _, (s2.trans s).trans (.kill s.ok kl), h1⟩
      | brk => cases h1; exact fun F' H' σ' s => p F' H' σ' ((s2.trans s).trans (.kill s.ok kl))
      | rt d => cases h1; exact fun F' H' v q w => p F' H' v (s2.reach q) w
/-- for -/
theorem s_for {tg iter : Expr} {t : T} {k : IK} {es : List E} {bs : List S} {mbs : List Stmt} {kl : List Nat} (hp : PassesOwn (model X.prog X.w) X.A X.env X.xe) (hc : X.calm = true) (hi : PI X tg iter (tI true K G k es)) (hg : PG X tg (tG K t)) (hb : PSs X mbs (tSs K G GI bs))
    (hs : ∀ x, foldedSetIterable iter X.env x = pure x) : PS X (.For tg iter mbs [] pos) (tS K G GI (.for_ t k es bs kl)) := (ps_for hp hc hi hg hb hs).imp fun D σ H ⟨F, env, r, o, hx, p⟩ => by
  obtain ⟨vs, hv, hx⟩ := Option.bind_eq_some_iff.mp (show (evL G env es).bind _ = some r from hx)
  obtain ⟨xs, hw, hx⟩ := Option.bind_eq_some_iff.mp hx
  refine ⟨F, env, vs, xs, o, hv, hw, fun F1 H1 J x1 l1 W => ?_⟩
  have s0 : Step (mkSs bs = true) K F H σ env F1 H1 σ env := ⟨.of_ext x1 l1, o.ext x1 l1, fun _ h => .inl h⟩
  refine ⟨fun i m σ2 H2 => m = xs.length - i ∧ i ≤ xs.length ∧ ∃ F2 env2, FMono F1 F2 ∧ Step (mkSs bs = true) K F H σ env F2 H2 σ2 env2 ∧ forL (fun x e => (bind t x e).bind fun e' => exs G GI e' bs) kl (xs.drop i) env2 = some r,
    ⟨xs.length, by simp, Nat.zero_le _, F1, env, .refl _, s0, hx⟩, ?_⟩
  rintro i m σ2 H2 ⟨rfl, hi, F2, env2, hm, s2, h2⟩
  have hS : SM true K σ env F1 F2 H2 := ⟨hm, s2.ok.le, fun z => by cases z⟩
  by_cases hlt : i < xs.length
  · refine .inr ⟨W.go i F2 H2 hS hlt, fun σ' H' => ∃ F' env', FMono F1 F' ∧ Step (mkSs bs = true) K F H σ env F' H' σ' env' ∧ forL (fun x e => (bind t x e).bind fun e' => exs G GI e' bs) kl (xs.drop (i + 1)) env' = some r, fun σ' H' n => ⟨xs.length - (i + 1), by omega, rfl, hlt, n⟩, fun x H' y => ?_⟩
    obtain ⟨F3, d, x3, l3, hd, rd⟩ := W.yld i F2 H2 x H' hS hlt y
    have s3 : Step (mkSs bs = true) K F H σ env F3 H' σ2 env2 := s2.trans ⟨.of_ext x3 l3, s2.ok.ext x3 l3, fun _ h => .inl h⟩
    have e1 : xs.drop i = d :: xs.drop (i + 1) := by
      have hd' := hd
      rw [List.getElem?_eq_getElem hlt] at hd'
      cases hd'
      exact List.drop_eq_getElem_cons hlt
    rw [e1] at h2
    obtain ⟨r1, hr1, h2⟩ := Option.bind_eq_some_iff.mp (show ((bind t d env2).bind fun e' => exs G GI e' bs).bind _ = some r from h2)
    obtain ⟨env3, hb3, hr1⟩ := Option.bind_eq_some_iff.mp hr1
    refine ⟨F3, env2, d, env3, s3.ok, rd, hb3, fun σ3 o3 _ sm => ?_⟩
    have s4 : Step (mkSs bs = true) K F H σ env F3 H' σ3 env3 := s3.trans ⟨.refl l3, o3, fun a ⟨j, e, q1, q2⟩ => by
      obtain ⟨q3, n1⟩ := bind_own t d hb3 q1
      rw [sm j n1] at q2
      exact .inl ⟨j, e, q3, q2⟩⟩
    refine ⟨F3, env3, r1, o3, hr1, ?_⟩
    obtain ⟨f, e1⟩ := r1
    cases f with
    | nx => exact fun F' H' σ' s => ⟨F', _, (hm.trans x3.f).trans s.re.f, (s4.trans s).trans (.kill s.ok kl), h2⟩
    | brk => cases h2; exact fun F' H' σ' s => p F' H' σ' ((s4.trans s).trans (.kill s.ok kl))
    | rt d => cases h2; exact fun F' H' v q w => p F' H' v (s4.reach q) w
  · have e : i = xs.length := by omega
    subst e
    rw [List.drop_of_length_le (Nat.le_refl _)] at h2
    cases h2
    exact .inl ⟨W.stop F2 H2 hS, p F2 H2 σ2 (s2.trans (.kill s2.ok kl))⟩
end
end Rx
end

section
set_option Elab.async false
set_option linter.all false
set_option maxRecDepth 100000
set_option maxHeartbeats 1000000
set_option autoImplicit false
/-! RxStmt2: what is just made; stores; calls. -/
namespace Rx
open PySem PySem.Spec PyProof.Rows L2

section
variable {X : Cx} {G GI : Gm} {K : PySem.W.Frag} {F H F1 H1 : Hp} {σ σ1 : St} {env env1 : Env} {e a b : E} {me ma mb : Expr} {mst : Stmt} {msts : List Stmt} {st : S} {sts : List S} {pos : Pos} {Q : VK} {es : List E} {mes : List Expr}
/-! ### just made -/
/-- what is wanted of a new one -/
abbrev WantN (K : PySem.W.Frag) (F H : Hp) (d : D) (Q : VK) : Prop := ∀ F' H' a, Ext F H F' H' → FLe F' H' → H a = none → F' a = none → OwnAt K F' H' a d → Q (.ref a) H'
theorem WantN.lst {ds : List D} {vs : List V} {p : Addr} (q : WantN K F H (.lst ds) Q) (l : FLe F H) (r : RepL K F ds vs) (z : ds.length ≤ line) (n : H p = none) : Q (.ref p) (upd H p (.lst vs)) :=
  q F _ p (.made n) (l.made n) n (l.free n) ⟨vs, upd_same, r, z⟩
/-- behind a growth -/
theorem wantN_ext {d : D} (x : Ext F H F1 H1) (q : WantN K F H d Q) : WantN K F1 H1 d Q := fun F' H' a x' l n f w => q F' H' a (x.trans x') l (by
  cases e : H a with
  | none => rfl
  | some u => rw [x.h a u e] at n; cases n) f w
theorem n_lst (h : PA X mes (tL K G es)) : PE X (.List mes pos) (tN K G (.lst es)) := (pe_lst h).imp fun σ H Q ⟨F, env, d, o, hd, k⟩ => by
  obtain ⟨x, hx, hd⟩ := Option.bind_eq_some_iff.mp (show (evL G env es).bind _ = some d from hd)
  unfold fits at hd
  split at hd <;> cases hd
  rename_i hl
  exact runL o hx fun F1 H1 vs x1 o1 r1 => ⟨by rw [r1.length, line_eq]; exact hl, fun p n => WantN.lst (wantN_ext x1 k) o1.le r1 hl n⟩
theorem n_dic0 : PE X (.Dict [] [] pos) (tN K G (.dic0 false)) := pe_dnewK.imp fun σ H Q ⟨F, env, d, o, hd, k⟩ p n => by
  cases hd; exact k F _ p (.made n) (o.le.made n) n (o.le.free n) ⟨[], upd_same, rfl⟩
theorem n_dic0T : PE X (.Dict [] [] pos) (tN K G (.dic0 true)) := pe_dnewT.imp fun σ H Q ⟨F, env, d, o, hd, k⟩ p n => by
  cases hd; exact k F _ p (.made n) (o.le.made n) n (o.le.free n) ⟨[], upd_same, rfl⟩
/-- lists only -/
def R2new (K : PySem.W.Frag) (f : D → D → Option D) (r : R2) : Prop := ∀ (x y : D) (zs : List D) (F H : Hp) (v u : V) (Q : VK), f x y = some (.lst zs) → FLe F H → RepB K F H x v → RepB K F H y u → WantN K F H (.lst zs) Q → r v u H Q
theorem n_bin {o : BO} {op : Operator} {r : R2} (ho : OpR X (binaryOp op) r) (hr : R2new K (opB o) r) (ha : PE X ma (tB K G a)) (hb : PE X mb (tB K G b)) : PE X (.BinOp ma op mb pos) (fun σ H Q => tN K G (.bin o a b) σ H Q ∧ ∀ F env d, Ok K F H σ env → ev G env (.bin o a b) = some d → ∃ zs, d = .lst zs) :=
  (pe_op ho ha hb).imp fun σ H Q ⟨⟨F, env, d, ok, hd, k⟩, hl⟩ => by
    obtain ⟨zs, rfl⟩ := hl F env d ok hd
    obtain ⟨x, hx, hd⟩ := Option.bind_eq_some_iff.mp (show (bo env a (ev G env a)).bind _ = some _ from hd)
    obtain ⟨y, hy, hd⟩ := Option.bind_eq_some_iff.mp hd
    exact runB ok hx fun F1 H1 v x1 o1 r1 => runB o1 hy fun F2 H2 u x2 o2 r2 => hr x y zs F2 H2 v u Q hd o2.le (r1.ext x2) r2 (wantN_ext (x1.trans x2) k)
theorem add_new : R2new K (opB .add) rCat := by
  intro x y zs F H v u Q hz l rx ry k
  cases x <;> cases y <;> simp only [opB] at hz <;> try cases hz
  · split at hz <;> cases hz
  · rename_i xs ys
    split at hz <;> cases hz
    rename_i hl
    obtain ⟨a, vs, rfl, ea, ra, la⟩ := rx.lst l
    obtain ⟨b, us, rfl, eb, rb, lb⟩ := ry.lst l
    have hv := ra.length
    have hu := rb.length
    exact ⟨a, b, vs, us, rfl, rfl, ea, eb, by rw [line_eq]; omega, fun p n => k.lst l (ra.append rb) (by simpa using hl) n⟩
theorem mul_new : R2new K (opB .mul) rRep := by
  intro x y zs F H v u Q hz l rx ry k
  cases x <;> cases y <;> simp only [opB] at hz <;> try cases hz
  · split at hz <;> cases hz
  · rename_i xs j
    split at hz <;> cases hz
    rename_i hm
    obtain ⟨a, vs, rfl, ea, ra, la⟩ := rx.lst l
    have hv := ra.length
    refine ⟨a, j, vs, rfl, ry.int, ea, by omega, by omega, by rw [line_eq, hv]; exact hm.2.2, fun p n => k.lst l (ra.rep _) ?_ n⟩
    rw [List.length_flatten, List.map_replicate, List.sum_replicate_nat, Nat.mul_comm]; exact hm.2.2
/-- a new thing is a list -/
theorem new_add {zs : List D} {x y d : D} (h : opB .add x y = some d) (hx : x = .lst zs) : ∃ zs, d = .lst zs := by
  subst hx
  cases y <;> simp only [opB] at h <;> try cases h
  split at h <;> cases h
  exact ⟨_, rfl⟩
theorem n_list {pp : Pos} (hg : Gl X "list") (hm : X.mg "list" = none) (ha : PE X ma (tB X.K G a)) (hs : starEach [ma] X.env = [(false, eval ma X.env)]) : PE X (.Call (.Name "list" pp) [ma] [] pos) (tN X.K G (.b1 .list a)) :=
  (pe_callTy call_list_of hg hm (by decide +kernel) (b_one ha hs) (by decide) (by decide) hs).imp fun σ H Q ⟨F, env, z, ok, hd, k⟩ => by
    obtain ⟨x, hx, hd⟩ := Option.bind_eq_some_iff.mp (show (bo env a (ev G env a)).bind _ = some z from hd)
    refine runLB ok (show (bo env a (ev G env a)).bind _ = some [x] by rw [hx]; rfl) fun F1 H1 vs x1 o1 r1 => ?_
    obtain ⟨v, r', rfl, r1, e⟩ := r1
    cases e
    obtain ⟨xs, hxs, rfl⟩ := Option.map_eq_some_iff.mp (show x.seq?.map .lst = some z from hd)
    rcases seq_some hxs with rfl | rfl
    · obtain ⟨a, vs, rfl, ea, ra, la⟩ := r1.tup
      exact ⟨a, vs, rfl, .inr (.of (o1.le.tup ea)), fun p n => (wantN_ext x1 k).lst o1.le ra la n⟩
    · obtain ⟨a, vs, rfl, ea, ra, la⟩ := r1.lst o1.le
      exact ⟨a, vs, rfl, .inl (.of ea), fun p n => (wantN_ext x1 k).lst o1.le ra la n⟩

/-! ### x op= e, stores by place -/
def P2ok (K : PySem.W.Frag) (f : D → D → Option D) (t : TIp) : Prop := ∀ (x y z : D) (F H : Hp) (v u : V) (Q : VK), f x y = some z → Rep K F x v → Rep K F y u → FLe F H → Want K F H z Q → t v u H Q
theorem ipadd_ok : P2ok K (opA .add) (ipI fun i j => i + j) := by
  intro x y z F H v u Q hz rx ry l k
  cases x <;> cases y <;> simp only [opA] at hz <;> try cases hz
  exact ⟨_, _, rx, ry, k.flat l rfl⟩
theorem ipsub_ok : P2ok K (opA .sub) (ipI fun i j => i - j) := by
  intro x y z F H v u Q hz rx ry l k
  cases x <;> cases y <;> simp only [opA] at hz <;> try cases hz
  exact ⟨_, _, rx, ry, k.flat l rfl⟩
theorem ip_mod : PIp X .Mod (rI (fun _ j => 0 < j) fun i j => .int (i % j)) := fun pins s σ H x y v u Q I r1 r2 h => iop_mod pins s σ H x y v u Q I r1 r2 h
theorem ipmod_ok : P2ok K (opA .mod) (rI (fun _ j => 0 < j) fun i j => .int (i % j)) := by
  intro x y z F H v u Q hz rx ry l k
  cases x <;> cases y <;> simp only [opA] at hz <;> try cases hz
  split at hz <;> cases hz
  exact ⟨_, _, rx, ry, ‹_›, k.flat l rfl⟩
theorem val_some {i : Nat} {d : D} (h : env.val i = some d) : env[i]? = some (.val d) := by
  unfold Env.val at h
  split at h
  · rename_i z hz; cases h; exact hz
  · cases h
theorem s_aug {i : Nat} {o : BO} {t : TIp} (ho : P2ok K (opA o) t) (h : PS X mst (tAug i (tD K G e) t)) : PS X mst (tS K G GI (.aug i o e)) := h.imp fun D σ H ⟨F, env, r, ok, hx, p⟩ => by
  obtain ⟨x, hxv, hx⟩ := Option.bind_eq_some_iff.mp (show (env.val i).bind _ = some r from hx)
  obtain ⟨y, hy, hx⟩ := Option.bind_eq_some_iff.mp hx
  obtain ⟨z, hz, rfl⟩ := Option.map_eq_some_iff.mp hx
  obtain ⟨v, e1, rv⟩ := ok.en.val i x (val_some hxv)
  exact ⟨v, e1, runD ok hy fun F1 H1 u x1 o1 r1 => ho x y z F1 H1 v u _ hz (rv.mono x1.f) r1 o1.le fun F2 H2 w x2 l2 r2 => p F2 H2 _ (.set ok (x1.trans x2) l2 r2)⟩
/-- a list's place -/
theorem ixN_eq (n : Nat) (i : Int) : L2.ixN n i = Rx.ixN n i := rfl
/-- a dict's pairs behind a store -/
theorem putK_rep {k : D} {k' : Key} (hk : KeyI k k') {d : D} {v : V} (rd : Rep K F d v) : ∀ {kvs : List (D × D)} {ws : List (Key × V)}, RepK K F kvs ws →
    ((kvs.any fun kv => D.eqb kv.1 k) = ws.any fun kv => decide (kv.1 = k')) ∧ RepK K F (kvs.map fun kv => if D.eqb kv.1 k = true then (kv.1, d) else kv) (ws.map fun kv => if kv.1 = k' then (kv.1, v) else kv) ∧ RepK K F (kvs ++ [(k, d)]) (ws ++ [(k', v)])
  | [], _, h => by cases h; exact ⟨rfl, rfl, k', v, [], rfl, hk, rd, rfl⟩
  | (a, c) :: r, _, h => by
    obtain ⟨a', u, r', rfl, ha, hc, h⟩ := h
    obtain ⟨h1, h2, h3⟩ := putK_rep hk rd h
    have e := eqb_keyI ha hk
    refine ⟨by simp only [List.any_cons, h1, e], ?_, a', u, r' ++ [(k', v)], rfl, ha, hc, h3⟩
    simp only [List.map_cons, e]
    by_cases q : a' = k'
    · simp only [q, decide_true, if_true]
      exact ⟨_, _, _, rfl, q ▸ ha, rd, h2⟩
    · simp only [q, decide_false, if_false, Bool.false_eq_true]
      exact ⟨_, _, _, rfl, ha, hc, h2⟩
theorem putT_rep {k : D} {k' : List Key} (hk : KeyT k k') {d : D} {v : V} (rd : Rep K F d v) : ∀ {kvs : List (D × D)} {ws : List (List Key × V)}, RepT K F kvs ws →
    ((kvs.any fun kv => D.eqb kv.1 k) = ws.any fun kv => decide (kv.1 = k')) ∧ RepT K F (kvs.map fun kv => if D.eqb kv.1 k = true then (kv.1, d) else kv) (ws.map fun kv => if kv.1 = k' then (kv.1, v) else kv) ∧ RepT K F (kvs ++ [(k, d)]) (ws ++ [(k', v)])
  | [], _, h => by cases h; exact ⟨rfl, rfl, k', v, [], rfl, hk, rd, rfl⟩
  | (a, c) :: r, _, h => by
    obtain ⟨a', u, r', rfl, ha, hc, h⟩ := h
    obtain ⟨h1, h2, h3⟩ := putT_rep hk rd h
    have e := eqb_keyT ha hk
    refine ⟨by simp only [List.any_cons, h1, e], ?_, a', u, r' ++ [(k', v)], rfl, ha, hc, h3⟩
    simp only [List.map_cons, e]
    by_cases q : a' = k'
    · simp only [q, decide_true, if_true]
      exact ⟨_, _, _, rfl, q ▸ ha, rd, h2⟩
    · simp only [q, decide_false, if_false, Bool.false_eq_true]
      exact ⟨_, _, _, rfl, ha, hc, h2⟩
theorem RepK.len : ∀ {kvs : List (D × D)} {ws : List (Key × V)}, RepK K F kvs ws → ws.length = kvs.length
  | [], _, h => by cases h; rfl
  | (a, c) :: r, _, h => by obtain ⟨a', u, r', rfl, ha, hc, h⟩ := h; simp [RepK.len h]
theorem RepT.len : ∀ {kvs : List (D × D)} {ws : List (List Key × V)}, RepT K F kvs ws → ws.length = kvs.length
  | [], _, h => by cases h; rfl
  | (a, c) :: r, _, h => by obtain ⟨a', u, r', rfl, ha, hc, h⟩ := h; simp [RepT.len h]
/-- behind a[k] = v -/
theorem put_at {x k d d' : D} {p : Addr} {u w : V} (hp : putAt x k d = some d') (l : FLe F H) (ow : OwnAt K F H p x) (rk : Rep K F k u) (rd : Rep K F d w) :
    (∃ xs i j, u = .int i ∧ H p = some (.lst xs) ∧ L2.ixN xs.length i = some j ∧ OwnAt K F (upd H p (.lst (xs.set j w))) p d') ∨ (∃ t kvs, x = .dic t kvs) ∧ ∃ o, DPut H p u w (upd H p o) ∧ OwnAt K F (upd H p o) p d' := by
  cases x with
  | lst ds =>
    obtain ⟨vs, e, r, z⟩ := ow
    cases k <;> simp only [putAt] at hp <;> try cases hp
    obtain ⟨j, hj, rfl⟩ := Option.map_eq_some_iff.mp hp
    exact .inl ⟨vs, _, j, rk, e, by rw [r.length]; exact hj, _, upd_same, r.set j rd, by rw [List.length_set]; exact z⟩
  | dic t kvs =>
    have hp : (if isKey t k = true ∧ kvs.length < line then some (D.dic t (D.put kvs k d)) else none) = some d' := by cases k <;> exact hp
    have hk : isKey t k = true ∧ kvs.length < line := Decidable.byContradiction fun n => by rw [if_neg n] at hp; cases hp
    rw [if_pos hk] at hp
    cases hp
    refine .inr ⟨⟨t, kvs, rfl⟩, ?_⟩
    cases t with
    | false =>
      obtain ⟨ws, e, r⟩ := ow
      obtain ⟨i, rfl⟩ := isKey_int hk.1
      obtain ⟨h1, h2, h3⟩ := putK_rep (k := .int i) (k' := Sum.inl i) ⟨i, rfl, rfl⟩ rd r
      refine ⟨.dK (putK ws (Sum.inl i) w), .inl ⟨ws, Sum.inl i, e, rk, by rw [line_eq, r.len]; exact hk.2, rfl⟩, _, upd_same, ?_⟩
      unfold D.put putK
      rw [h1]
      split <;> assumption
    | true =>
      obtain ⟨ws, e, r⟩ := ow
      obtain ⟨ns, rfl⟩ := isKey_tup hk.1
      obtain ⟨b, vs, rfl, eb, rb, lz⟩ := rk
      obtain ⟨h1, h2, h3⟩ := putT_rep (k := .tup (ns.map .int)) (k' := ns.map Sum.inl) ⟨ns, rfl, rfl, by simpa using lz⟩ rd r
      refine ⟨.dT (putK ws (ns.map Sum.inl) w), .inr ⟨ws, ns.map Sum.inl, b, e, rfl, by rw [l.tup eb, rb.ints, List.map_map]; rfl, by rw [line_eq, r.len]; exact hk.2, rfl⟩, _, upd_same, ?_⟩
      unfold D.put putK
      rw [h1]
      split <;> assumption
  | _ => exact False.elim ow
theorem s_sset {i : Nat} (hl : PS X mst (tAsg (tD K G e) (gSub (L2.tVar i) (tD K G a) rSetL))) (hd : PS X mst (sDPut (L2.tVar i) (tD K G a) (tD K G e))) : PS X mst (tS K G GI (.sset i a e)) := (hl.or hd).imp fun D σ H ⟨F, env, r, ok, hx, p⟩ => by
  obtain ⟨d, he, hx⟩ := Option.bind_eq_some_iff.mp (show (ev G env e).bind _ = some r from hx)
  obtain ⟨x, hxo, hx⟩ := Option.bind_eq_some_iff.mp hx
  obtain ⟨k, hk, hx⟩ := Option.bind_eq_some_iff.mp hx
  obtain ⟨d', hp, rfl⟩ := Option.map_eq_some_iff.mp hx
  have hi := ow_some hxo
  obtain ⟨pa, ha, _, ow0⟩ := ok.en.own i x hi
  have fin : ∀ {F2 H2 u w}, Ext F H F2 H2 → FLe F2 H2 → Rep K F2 k u → Rep K F2 d w → _ := fun {F2 H2 u w} x2 l2 rk rd => put_at hp l2 (ow0.mono x2.f fun z => x2.h pa z) rk rd
  rcases dic_or x with ⟨t, kvs, rfl⟩ | hnd
  · refine .inr (runD ok he fun F1 H1 w x1 o1 r1 => ⟨.ref pa, ha, runD o1 hk fun F2 H2 u x2 o2 r2 => ?_⟩)
    rcases fin (x1.trans x2) o2.le r2 (r1.mono x2.f) with ⟨xs, i', j, _, e1, _⟩ | ⟨_, ob, dp, ow⟩
    · obtain ⟨_, e0, _⟩ := o2.en.own i _ hi
      rw [ha] at e0
      have := (ow0.mono (x1.trans x2).f fun z => (x1.trans x2).h pa z)
      cases t <;> (obtain ⟨ws, e2, _⟩ := this; rw [e1] at e2; cases e2)
    · exact ⟨pa, _, rfl, dp, p F2 _ σ ((Step.trans ⟨.of_ext (x1.trans x2) o2.le, o2, fun _ h => .inl h⟩ (Step.upd o2 hi ha ow)))⟩
  · refine .inl (runD ok he fun F1 H1 w x1 o1 r1 => ⟨.ref pa, ha, runD o1 hk fun F2 H2 u x2 o2 r2 => ?_⟩)
    rcases fin (x1.trans x2) o2.le r2 (r1.mono x2.f) with ⟨xs, i', j, rfl, e1, hj, ow⟩ | ⟨⟨t, kvs, e⟩, _⟩
    · exact ⟨pa, xs, i', j, rfl, rfl, e1, hj, p F2 _ σ ((Step.trans ⟨.of_ext (x1.trans x2) o2.le, o2, fun _ h => .inl h⟩ (Step.upd o2 hi ha ow)))⟩
    · exact absurd e (hnd t kvs)

/-! ### x[k] op= e -/
theorem get_list : PGet X (rIxL X.K) := by
  intro pins s σ H x y v u Q I rx ry h
  obtain ⟨p, xs, i, z, rfl, rfl, hq, he, q⟩ := h
  cases rx
  obtain ⟨t, rfl⟩ := ry
  obtain ⟨its, r, pl, hz⟩ := I.list hq
  obtain ⟨j, h1, h2, h3, h4, h5⟩ := atI_get he
  obtain ⟨w, ew, rw'⟩ := r.get h2
  have hl := r.length
  have hn := line63
  by_cases h0 : 0 ≤ i
  · have hj : i.toNat = j := by
      rw [seqIndex_of h0 h5] at h1
      exact Option.some.inj h1
    exact wpAny_getItem_list pl.isList h0 (by omega) (by rw [hj]; simpa using ew) ⟨z, H, I, rw', q⟩
  · have hj : (i + (its.toArray.size : Int)).toNat = j := by
      rw [seqIndex_neg (by omega) h4] at h1
      rw [List.size_toArray, ← hl]
      exact Option.some.inj h1
    exact wpAny_getItem_list_neg pl.isList (by omega) (by rw [List.size_toArray] <;> omega) (by omega) (by rw [hj]; simpa using ew) ⟨z, H, I, rw', q⟩
theorem dic_sub {t : Bool} {kvs : List (D × D)} {y z : D} {v u : V} (hz : opSub (.dic t kvs) y = some z) (l : FLe F H) (rx : RepB K F H (.dic t kvs) v) (ry : RepB K F H y u) : ∃ a w, v = .ref a ∧ DGet H a u (some w) ∧ Rep K F z w := by
  have hz : (if isKey t y = true then D.get kvs y else none) = some z := by cases y <;> exact hz
  have hk : isKey t y = true := Decidable.byContradiction fun n => by rw [if_neg n] at hz; cases hz
  rw [if_pos hk] at hz
  obtain ⟨a, o, rfl, g, rg, _⟩ := dget_of l hk rx ry
  rw [hz] at rg
  cases o with
  | none => exact False.elim rg
  | some w => exact ⟨a, w, rfl, g, rg⟩
theorem s_saug {i : Nat} {o : BO} {t : TIp} (ho : P2ok K (opA o) t) (hl : PS X mst (tAugS (L2.tVar i) (tD K G a) (tD K G e) (rIxL K) t rSetL)) (hd : PS X mst (sDAug (L2.tVar i) (tD K G a) (tD K G e) t)) : PS X mst (tS K G GI (.saug i a o e)) := (hl.or hd).imp fun D σ H ⟨F, env, r, ok, hx, p⟩ => by
  obtain ⟨x, hxo, hx⟩ := Option.bind_eq_some_iff.mp (show (env.ow i).bind _ = some r from hx)
  obtain ⟨k, hk, hx⟩ := Option.bind_eq_some_iff.mp hx
  obtain ⟨y, hy, hx⟩ := Option.bind_eq_some_iff.mp hx
  obtain ⟨d, he, hx⟩ := Option.bind_eq_some_iff.mp hx
  obtain ⟨z, hz, hx⟩ := Option.bind_eq_some_iff.mp hx
  obtain ⟨d', hp, rfl⟩ := Option.map_eq_some_iff.mp hx
  have hi := ow_some hxo
  obtain ⟨pa, ha, hf, ow0⟩ := ok.en.own i x hi
  have rx : RepB K F H x (.ref pa) := .inr ⟨pa, rfl, hf, ow0⟩
  rcases dic_or x with ⟨tt, kvs, rfl⟩ | hnd
  · refine .inr ⟨.ref pa, ha, runD ok hk fun F1 H1 u x1 o1 r1 => ?_⟩
    obtain ⟨a', w, ea, g, rw'⟩ := dic_sub hy o1.le (rx.ext x1) (.inl r1)
    cases ea
    refine ⟨pa, w, rfl, g, runD o1 he fun F2 H2 v2 x2 o2 r2 => ho y d z F2 H2 w v2 _ hz (rw'.mono x2.f) r2 o2.le fun F3 H3 w3 x3 l3 r3 => ?_⟩
    have x13 := (x1.trans x2).trans x3
    rcases put_at hp l3 (ow0.mono x13.f fun z => x13.h pa z) (r1.mono (x2.trans x3).f) r3 with ⟨xs, i', j, _, e1, _⟩ | ⟨_, ob, dp, ow⟩
    · have := ow0.mono x13.f fun z => x13.h pa z
      cases tt <;> (obtain ⟨ws, e2, _⟩ := this; rw [e1] at e2; cases e2)
    · exact ⟨_, dp, p F3 _ σ (Step.trans ⟨.of_ext x13 l3, ok.ext x13 l3, fun _ h => .inl h⟩ (Step.upd (ok.ext x13 l3) hi ha ow))⟩
  · refine .inl ⟨.ref pa, ha, runD ok hk fun F1 H1 u x1 o1 r1 => ?_⟩
    cases x with
    | lst ds =>
      obtain ⟨vs, ev1, rvs, _⟩ := ow0.mono x1.f fun z => x1.h pa z
      cases k <;> simp only [opSub] at hy <;> try cases hy
      obtain ⟨w, hw, rw'⟩ := at_of rvs hy
      refine ⟨pa, vs, _, w, rfl, r1, .of ev1, hw, runD o1 he fun F2 H2 v2 x2 o2 r2 => ho y d z F2 H2 w v2 _ hz (rw'.mono x2.f) r2 o2.le fun F3 H3 w3 x3 l3 r3 => ?_⟩
      have x13 := (x1.trans x2).trans x3
      rcases put_at hp l3 (ow0.mono x13.f fun z => x13.h pa z) (r1.mono (x2.trans x3).f) r3 with ⟨xs, i', j, rfl, e1, hj, ow⟩ | ⟨⟨t, kvs, e⟩, _⟩
      · exact ⟨pa, xs, i', j, rfl, rfl, e1, hj, p F3 _ σ (Step.trans ⟨.of_ext x13 l3, ok.ext x13 l3, fun _ h => .inl h⟩ (Step.upd (ok.ext x13 l3) hi ha ow))⟩
      · cases e
    | dic t kvs => exact absurd rfl (hnd t kvs)
    | _ => exact False.elim ow0
/-! ### append, extend -/
theorem s_app {i : Nat} (h : PS X mst (tDrop (tBM K "list" rAppend (L2.tVar i) (tL K G [e])))) : PS X mst (tS K G GI (.app i e)) := h.imp fun D σ H ⟨F, env, r, ok, hx, p⟩ => by
  obtain ⟨x, hxo, hx⟩ := Option.bind_eq_some_iff.mp (show (env.ow i).bind _ = some r from hx)
  obtain ⟨v, hv, hx⟩ := Option.bind_eq_some_iff.mp hx
  have hi := ow_some hxo
  obtain ⟨pa, ha, hf, ow0⟩ := ok.en.own i x hi
  cases x <;> simp only at hx <;> try cases hx
  rename_i xs
  split at hx <;> cases hx
  rename_i hlt
  obtain ⟨vs, e0, _, _⟩ := id ow0
  refine ⟨.ref pa, ha, .inl ⟨rfl, _, .inl (.inl e0)⟩, runL ok (show (ev G env e).bind _ = some [v] by rw [hv]; rfl) fun F1 H1 ws x1 o1 r1 => ?_⟩
  obtain ⟨w, r', rfl, r1, e1⟩ := r1
  cases e1
  obtain ⟨vs, e2, rv, lv⟩ := ow0.mono x1.f fun z => x1.h pa z
  refine ⟨pa, vs, w, rfl, rfl, e2, by rw [rv.length, line_eq]; exact hlt, p F1 _ σ (Step.trans ⟨.of_ext x1 o1.le, o1, fun _ h => .inl h⟩ (Step.upd o1 hi ha ?_))⟩
  exact ⟨_, upd_same, rv.append (.one r1), by simp; omega⟩
theorem s_ext {i : Nat} (h : PS X mst (tDrop (tBM K "list" rExtend (L2.tVar i) (tL K G [e])))) : PS X mst (tS K G GI (.ext i e)) := h.imp fun D σ H ⟨F, env, r, ok, hx, p⟩ => by
  obtain ⟨x, hxo, hx⟩ := Option.bind_eq_some_iff.mp (show (env.ow i).bind _ = some r from hx)
  obtain ⟨v, hv, hx⟩ := Option.bind_eq_some_iff.mp hx
  have hi := ow_some hxo
  obtain ⟨pa, ha, hf, ow0⟩ := ok.en.own i x hi
  cases x <;> try (simp only at hx; cases hx; done)
  cases v <;> try (simp only at hx; cases hx; done)
  rename_i xs _ ys
  have hx : (if xs.length + ys.length ≤ line then some (Fl.nx, env.set i (.own (.lst (xs ++ ys)))) else none) = some r := hx
  have hlt : xs.length + ys.length ≤ line := Decidable.byContradiction fun n => by rw [if_neg n] at hx; cases hx
  rw [if_pos hlt] at hx
  cases hx
  obtain ⟨vs, e0, _, _⟩ := id ow0
  refine ⟨.ref pa, ha, .inl ⟨rfl, _, .inl (.inl e0)⟩, runL ok (show (ev G env e).bind _ = some [_] by rw [hv]; rfl) fun F1 H1 ws x1 o1 r1 => ?_⟩
  obtain ⟨w, r', rfl, r1, e1⟩ := r1
  cases e1
  obtain ⟨b, us, rfl, eb, rb, lb⟩ := r1
  obtain ⟨vs, e2, rv, lv⟩ := ow0.mono x1.f fun z => x1.h pa z
  refine ⟨pa, b, vs, us, rfl, rfl, e2, o1.le.lst eb, by rw [rv.length, rb.length, line_eq]; exact hlt, p F1 _ σ (Step.trans ⟨.of_ext x1 o1.le, o1, fun _ h => .inl h⟩ (Step.upd o1 hi ha ?_))⟩
  exact ⟨_, upd_same, rv.append rb, by simpa using hlt⟩
end
end Rx
end

section
set_option Elab.async false
set_option linter.all false
set_option maxRecDepth 100000
set_option maxHeartbeats 1000000
set_option autoImplicit false
/-! RxCall: calls, parallel assignments. -/
namespace Rx
open PySem PySem.Spec PyProof.Rows L2

/-- a def's promise: it gives back what g says of its arguments' data -/
def spD (K : PySem.W.Frag) (n : Nat) (g : List D → Option D) : Sp := fun vs H Q _ => vs.length = n ∧ ∃ F ds d, FLe F H ∧ RepL K F ds vs ∧ g ds = some d ∧ Want K F H d Q
/-- .. of a def that changes the list that its first argument is -/
def spI (K : PySem.W.Frag) (n : Nat) (g : List D → Option D) : Sp := fun vs H Q _ => vs.length = n ∧ ∃ F a x ds ws d, vs = .ref a :: ws ∧ FLe F H ∧ F a = none ∧ OwnAt K F H a x ∧ RepL K F ds ws ∧ g (x :: ds) = some d ∧
  ∀ F' H', FMono F F' → (∀ b u, H b = some u → b ≠ a → H' b = some u ∧ (isTupO u = false → F' b = F b)) → FLe F' H' → F' a = none → OwnAt K F' H' a d → Q .non H'
/-- x may be called, and does as sp says -/
structure CallC (P : Program) (w : World) (K : PySem.W.Frag) (mg : Str → Option Value) (base : Heap) (A : Around) (x : Str) (n : Nat) (sp : Sp) : Prop where
  ex : ∃ (k : Nat) (fa : Addr) (fd : FuncData) (ps : List Str), ps.length = n ∧ FnOk P w K mg base CX0 k fa fd ps sp ∧ Room k A ∧ mg x = some (.ref fa) ∧ PySem.W.keepIn K (.ref fa) = true ∧ Binds K fd ps []
abbrev CallOk (X : Cx) (x : Str) (n : Nat) (sp : Sp) : Prop := CallC X.prog X.w X.K X.mg X.base X.A x n sp
section
variable {X : Cx} {G GI : Gm} {K : PySem.W.Frag} {F H F1 H1 : Hp} {σ σ1 : St} {env env1 : Env} {e a b : E} {me ma mb : Expr} {mst : Stmt} {msts : List Stmt} {st : S} {sts : List S} {pos : Pos} {Q : VK} {es : List E} {mes : List Expr}
theorem r_call {f n : Nat} {x : Str} {pp : Pos} (c : CallOk X x n (spD X.K n (G f))) (hn : ∀ ds d, G f ds = some d → ds.length = n) (hg : Gl X x) (ha : PA X (me :: mes) (tL X.K G es)) (hdb : (x == ("__debug__" : Str)) = false)
    (he : starEach (me :: mes) X.env = (false, eval me X.env) :: starEach mes X.env) (hpl : (backTo pos (starEach mes X.env)).any (·.1) = false) : PE X (.Call (.Name x pp) (me :: mes) [] pos) (tD X.K G (.call f es)) := by
  obtain ⟨k, fa, fd, ps, hps, F0, hr, hm, hk, hb⟩ := c.ex
  refine (pe_call F0 hr hg hm hk hb .nil (E := E0) pass0 ha hdb he hpl).imp fun σ H Q ⟨F, env, d, o, hd, q⟩ => ?_
  obtain ⟨ds, hds, hd⟩ := Option.bind_eq_some_iff.mp (show (evL G env es).bind _ = some d from hd)
  refine runL o hds fun F1 H1 vs x1 o1 r1 => ?_
  rw [List.append_nil]
  exact ⟨by rw [r1.length, hn ds d hd], F1, ds, d, o1.le, r1, hd, fun F' H' v x2 l2 r2 => q F' H' v (x1.trans x2) l2 r2⟩
/-- f(x, ..) where f changes x -/
theorem s_callIO {f i n : Nat} {x : Str} {pp pos' : Pos} {y : Str} {py : Pos} (c : CallOk X x n (spI X.K n (GI f))) (hn : ∀ ds d, GI f ds = some d → ds.length = n) (hg : Gl X x) (hv : PE X (.Name y py) (L2.tVar i)) (ha : PA X mes (tL X.K G es)) (hdb : (x == ("__debug__" : Str)) = false)
    (hs : starEach (.Name y py :: mes) X.env = (false, eval (.Name y py) X.env) :: starEach mes X.env) (hpl : (backTo pos (starEach mes X.env)).any (·.1) = false) (hsw : swapsWith (.Call (.Name x pp) (.Name y py :: mes) [] pos) none pos'.line X.env = pure false) :
    PS X (.Expr (.Call (.Name x pp) (.Name y py :: mes) [] pos) pos') (tS X.K G GI (.callIO f i es)) := by
  obtain ⟨k, fa, fd, ps, hps, F0, hr, hm, hk, hb⟩ := c.ex
  refine (ps_expr (pe_call F0 hr hg hm hk hb .nil (E := E0) pass0 (pa_cons hv ha hs) hdb hs hpl) hsw).imp fun D σ H ⟨F, env, r, ok, hx, p⟩ => ?_
  obtain ⟨x, hxo, hx⟩ := Option.bind_eq_some_iff.mp (show (env.ow i).bind _ = some r from hx)
  obtain ⟨ds, hds, hx⟩ := Option.bind_eq_some_iff.mp hx
  obtain ⟨d, hd, rfl⟩ := Option.map_eq_some_iff.mp hx
  have hi := ow_some hxo
  obtain ⟨pa, ha', hf, ow0⟩ := ok.en.own i x hi
  refine ⟨.ref pa, ha', runL ok hds fun F1 H1 ws x1 o1 r1 => ?_⟩
  show spI X.K n (GI f) ((.ref pa :: ws) ++ []) H1 _ _
  rw [List.append_nil]
  obtain ⟨pa', e1, hf1, ow1⟩ := o1.en.own i x hi
  rw [ha'] at e1; cases e1
  have hl := hn _ _ hd
  refine ⟨by simp at hl ⊢; rw [r1.length]; exact hl, F1, pa, x, ds, ws, d, rfl, o1.le, hf1, ow1, r1, hd, fun F' H' fm kp l' f' w' => ?_⟩
  have s1 : Step (mkS (.callIO f i es) = true) X.K F H σ env F1 H1 σ env := ⟨.of_ext x1 o1.le, o1, fun _ h => .inl h⟩
  refine p F' H' σ (s1.trans ⟨⟨fm, fun b u e nn => ?_, fun b u e nt nn => ?_, l'⟩, ⟨l', by rw [List.length_set]; exact o1.en.len, fun j e h => ?_, fun j e h => ?_, fun j k' e e' b hjk h1 h2 h3 => ?_⟩, fun b ⟨j, e, h1, h2⟩ => .inl ?_⟩)
  · exact (kp b u e fun z => nn ⟨i, x, hi, by rw [z]; exact ha'⟩).1
  · exact (kp b u e fun z => nn ⟨i, x, hi, by rw [z]; exact ha'⟩).2 nt
  · rcases set_get h with ⟨_, h, _⟩ | ⟨_, h⟩
    · cases h
    · obtain ⟨v, q1, q2⟩ := o1.en.val j e h
      exact ⟨v, q1, q2.mono fm⟩
  · rcases set_get h with ⟨rfl, h, _⟩ | ⟨hj, h⟩
    · cases h; exact ⟨pa, ha', f', w'⟩
    · obtain ⟨b, e1, e2, wb⟩ := o1.en.own j e h
      have hb : b ≠ pa := fun q => o1.en.sep i j x e pa (Ne.symm hj) hi h ha' (by rw [← q]; exact e1)
      obtain ⟨u, hu, nt⟩ := wb.there
      exact ⟨b, e1, ((kp b u hu hb).2 nt).trans e2, wb.mono fm fun z q => (kp b z q hb).1⟩
  · have g1 : ∃ e0, env[j]? = some (.own e0) := by
      rcases set_get h1 with ⟨rfl, _, _⟩ | ⟨_, h⟩
      · exact ⟨x, hi⟩
      · exact ⟨e, h⟩
    have g2 : ∃ e0, env[k']? = some (.own e0) := by
      rcases set_get h2 with ⟨rfl, _, _⟩ | ⟨_, h⟩
      · exact ⟨x, hi⟩
      · exact ⟨e', h⟩
    obtain ⟨e0, g1⟩ := g1
    obtain ⟨e1, g2⟩ := g2
    exact o1.en.sep j k' e0 e1 b hjk g1 g2 h3
  · rcases set_get h1 with ⟨rfl, _, _⟩ | ⟨_, h1⟩
    · exact ⟨j, x, hi, h2⟩
    · exact ⟨j, e, h1, h2⟩

/-! ### a, b = x, y -/
/-- what is stored: frozen, or new -/
def RepP (K : PySem.W.Frag) (H F' H' : Hp) : List (Nat × Bool) → List D → List V → List Addr → Prop
  | [], [], vs, as => vs = [] ∧ as = []
  | (_, o) :: ts, d :: ds, vs, as => ∃ v r, vs = v :: r ∧ if o then ∃ a as', as = a :: as' ∧ v = .ref a ∧ H a = none ∧ F' a = none ∧ OwnAt K F' H' a d ∧ a ∉ as' ∧ RepP K H F' H' ts ds r as' else Rep K F' d v ∧ RepP K H F' H' ts ds r as
  | _, _, _, _ => False
theorem RepP.fresh {H F' H' : Hp} : ∀ {ts : List (Nat × Bool)} {ds : List D} {vs : List V} {as : List Addr}, RepP K H F' H' ts ds vs as → ∀ a ∈ as, H a = none
  | [], [], _, _, h, a, ha => by obtain ⟨_, rfl⟩ := h; cases ha
  | (_, true) :: ts, d :: ds, _, _, h, a, ha => by
    obtain ⟨v, r, rfl, b, as', rfl, rfl, n, _, _, _, h⟩ := h
    rcases List.mem_cons.mp ha with rfl | ha
    · exact n
    · exact RepP.fresh h a ha
  | (_, false) :: ts, d :: ds, _, _, h, a, ha => by
    obtain ⟨v, r, rfl, _, h⟩ := h
    exact RepP.fresh h a ha
  | [], _ :: _, _, _, h, _, _ => False.elim h
  | (_, _) :: _, [], _, _, h, _, _ => False.elim h
/-- the base may be older -/
theorem RepP.old {H0 H F' H' : Hp} (k : ∀ a, H a = none → H0 a = none) : ∀ {ts : List (Nat × Bool)} {ds : List D} {vs : List V} {as : List Addr}, RepP K H F' H' ts ds vs as → RepP K H0 F' H' ts ds vs as
  | [], [], _, _, h => h
  | (_, true) :: ts, d :: ds, _, _, h => by
    obtain ⟨v, r, rfl, b, as', rfl, rfl, n, h1, h2, h3, h⟩ := h
    exact ⟨_, r, rfl, b, as', rfl, rfl, k b n, h1, h2, h3, RepP.old k h⟩
  | (_, false) :: ts, d :: ds, _, _, h => by
    obtain ⟨v, r, rfl, h1, h⟩ := h
    exact ⟨v, r, rfl, h1, RepP.old k h⟩
  | [], _ :: _, _, _, h => False.elim h
  | (_, _) :: _, [], _, _, h => False.elim h
/-- the heap may grow -/
theorem RepP.ext {H F' H' F2 H2 : Hp} (x : Ext F' H' F2 H2) : ∀ {ts : List (Nat × Bool)} {ds : List D} {vs : List V} {as : List Addr}, RepP K H F' H' ts ds vs as → RepP K H F2 H2 ts ds vs as
  | [], [], _, _, h => h
  | (_, true) :: ts, d :: ds, _, _, h => by
    obtain ⟨v, r, rfl, b, as', rfl, rfl, n, h1, h2, h3, h⟩ := h
    obtain ⟨u, hu, nt⟩ := h2.there
    exact ⟨_, r, rfl, b, as', rfl, rfl, n, (x.n b u hu nt).trans h1, h2.mono x.f fun u => x.h b u, h3, RepP.ext x h⟩
  | (_, false) :: ts, d :: ds, _, _, h => by
    obtain ⟨v, r, rfl, h1, h⟩ := h
    exact ⟨v, r, rfl, h1.mono x.f, RepP.ext x h⟩
  | [], _ :: _, _, _, h => False.elim h
  | (_, _) :: _, [], _, _, h => False.elim h
def tP (K : PySem.W.Frag) (G : Gm) (ts : List (Nat × Bool)) (es : List E) : TA := fun σ H Q => ∃ F env ds, Ok K F H σ env ∧ evL G env es = some ds ∧ ∀ F' H' vs as, Ext F H F' H' → FLe F' H' → RepP K H F' H' ts ds vs as → Q vs H'
theorem p_nil : PA X [] (tP K G [] []) := pa_nil.imp fun σ H Q ⟨F, env, d, o, hd, k⟩ => by
  cases hd; exact k _ _ _ _ (.refl F H) o.le ⟨rfl, rfl⟩
theorem none_of {a : Addr} (x : Ext F H F1 H1) (n : H1 a = none) : H a = none := by
  cases e : H a with
  | none => rfl
  | some u => rw [x.h a u e] at n; cases n
theorem p_val {i : Nat} {ts : List (Nat × Bool)} (ha : PE X ma (tD K G a)) (hr : PA X mes (tP K G ts es)) (hs : starEach (ma :: mes) X.env = (false, eval ma X.env) :: starEach mes X.env) : PA X (ma :: mes) (tP K G ((i, false) :: ts) (a :: es)) := (pa_cons ha hr hs).imp fun σ H Q ⟨F, env, d, o, hd, k⟩ => by
  obtain ⟨x, hx, hd⟩ := Option.bind_eq_some_iff.mp (show (ev G env a).bind _ = some d from hd)
  obtain ⟨xs, hxs, rfl⟩ := Option.map_eq_some_iff.mp hd
  exact runD o hx fun F1 H1 v x1 o1 r1 => ⟨F1, env, xs, o1, hxs, fun F2 H2 vs as x2 l2 r2 => k _ _ _ as (x1.trans x2) l2 ⟨v, vs, rfl, r1.mono x2.f, r2.old fun a => none_of x1⟩⟩
theorem p_new {i : Nat} {ts : List (Nat × Bool)} (ha : PE X ma (tN K G a)) (hr : PA X mes (tP K G ts es)) (hs : starEach (ma :: mes) X.env = (false, eval ma X.env) :: starEach mes X.env) : PA X (ma :: mes) (tP K G ((i, true) :: ts) (a :: es)) := (pa_cons ha hr hs).imp fun σ H Q ⟨F, env, d, o, hd, k⟩ => by
  obtain ⟨x, hx, hd⟩ := Option.bind_eq_some_iff.mp (show (ev G env a).bind _ = some d from hd)
  obtain ⟨xs, hxs, rfl⟩ := Option.map_eq_some_iff.mp hd
  refine ⟨F, env, x, o, hx, fun F1 H1 b x1 l1 n f w => ⟨F1, env, xs, o.ext x1 l1, hxs, fun F2 H2 vs as x2 l2 r2 => ?_⟩⟩
  obtain ⟨u, hu, nt⟩ := w.there
  refine k _ _ _ (b :: as) (x1.trans x2) l2 ⟨.ref b, vs, rfl, b, as, rfl, rfl, n, (x2.n b u hu nt).trans f, w.mono x2.f fun u => x2.h b u, fun hm => ?_, r2.old fun a => none_of x1⟩
  have := r2.fresh b hm
  rw [hu] at this; cases this
/-- stored one after another -/
theorem stores_ok : ∀ {ts : List (Nat × Bool)} {ds : List D} {vs : List V} {as : List Addr} {σ : St} {env env' : Env}, Ok K F1 H1 σ env → RepP K H F1 H1 ts ds vs as → stores ts ds env = some env' → (∀ a ∈ as, NoOwn σ env a) →
    Ok K F1 H1 (((ts.map (·.1)).zip vs).foldl (fun s p => s.set p.1 (some p.2)) σ) env' ∧ ∀ b, Own (((ts.map (·.1)).zip vs).foldl (fun s p => s.set p.1 (some p.2)) σ) env' b → Own σ env b ∨ H b = none
  | [], [], _, _, σ, env, env', o, h, hs, _ => by cases hs; exact ⟨o, fun b h => .inl h⟩
  | (i, true) :: ts, d :: ds, _, _, σ, env, env', o, h, hs, hno => by
    obtain ⟨v, r, rfl, a, as', rfl, rfl, n, f, w, na, h⟩ := h
    have o2 : Ok K F1 H1 (σ.set i (some (.ref a))) (env.set i (.own d)) := ⟨o.le, o.en.setO f w fun j e _ q => hno a List.mem_cons_self j e q⟩
    have hno2 : ∀ b ∈ as', NoOwn (σ.set i (some (.ref a))) (env.set i (.own d)) b := fun b hb j e h1 h2 => by
      rcases own_setO ⟨j, e, h1, h2⟩ with ⟨j', e', q1, q2⟩ | q
      · exact hno b (List.mem_cons_of_mem _ hb) j' e' q1 q2
      · exact na (by rw [← q]; exact hb)
    obtain ⟨o3, ow3⟩ := stores_ok o2 h hs hno2
    refine ⟨o3, fun b hb => ?_⟩
    rcases ow3 b hb with q | q
    · rcases own_setO q with q | rfl
      · exact .inl q
      · exact .inr n
    · exact .inr q
  | (i, false) :: ts, d :: ds, _, _, σ, env, env', o, h, hs, hno => by
    obtain ⟨v, r, rfl, rv, h⟩ := h
    have o2 : Ok K F1 H1 (σ.set i (some v)) (env.set i (.val d)) := ⟨o.le, o.en.set rv⟩
    have hno2 : ∀ b ∈ _, NoOwn (σ.set i (some v)) (env.set i (.val d)) b := fun b hb j e h1 h2 => by
      obtain ⟨j', e', q1, q2⟩ := own_set ⟨j, e, h1, h2⟩
      exact hno b hb j' e' q1 q2
    obtain ⟨o3, ow3⟩ := stores_ok o2 h hs hno2
    refine ⟨o3, fun b hb => ?_⟩
    rcases ow3 b hb with q | q
    · exact .inl (own_set q)
    · exact .inr q
  | [], _ :: _, _, _, _, _, _, _, h, _, _ => False.elim h
  | (_, _) :: _, [], _, _, _, _, _, _, h, _, _ => False.elim h
/-- what a parallel assignment wants -/
def tPar (is : List Nat) (ta : TA) : TS := fun Dn σ H => ta σ H fun vs H1 => vs.length = is.length ∧ Dn.nx ((is.zip vs).foldl (fun s p => s.set p.1 (some p.2)) σ) H1
theorem RepP.length {H F' H' : Hp} : ∀ {ts : List (Nat × Bool)} {ds : List D} {vs : List V} {as : List Addr}, RepP K H F' H' ts ds vs as → vs.length = ts.length
  | [], [], _, _, h => by obtain ⟨rfl, _⟩ := h; rfl
  | (_, true) :: ts, d :: ds, _, _, h => by
    obtain ⟨v, r, rfl, b, as', rfl, rfl, n, h1, h2, h3, h⟩ := h
    simp [RepP.length h]
  | (_, false) :: ts, d :: ds, _, _, h => by
    obtain ⟨v, r, rfl, h1, h⟩ := h
    simp [RepP.length h]
  | [], _ :: _, _, _, h => False.elim h
  | (_, _) :: _, [], _, _, h => False.elim h
theorem s_asgP {ts : List (Nat × Bool)} (h : PS X mst (tPar (ts.map (·.1)) (tP K G ts es))) : PS X mst (tS K G GI (.asgP ts es)) := h.imp fun Dn σ H ⟨F, env, r, ok, hx, p⟩ => by
  obtain ⟨ds, hds, hx⟩ := Option.bind_eq_some_iff.mp (show (evL G env es).bind _ = some r from hx)
  obtain ⟨env', hs, rfl⟩ := Option.map_eq_some_iff.mp hx
  refine ⟨F, env, ds, ok, hds, fun F' H' vs as x l rp => ⟨by rw [rp.length, List.length_map], ?_⟩⟩
  obtain ⟨o2, ow2⟩ := stores_ok (ok.ext x l) rp hs fun a ha => own_ne ok (rp.fresh a ha)
  exact p F' H' _ ⟨.of_ext x l, o2, fun b h => (ow2 b h).imp id fun n => ⟨n, rfl⟩⟩
theorem tP_mono {ts : List (Nat × Bool)} {Q Q' : List V → Hp → Prop} (h : tP K G ts es σ H Q) (m : ∀ vs H', Q vs H' → Q' vs H') : tP K G ts es σ H Q' :=
  let ⟨F, env, ds, o, hd, k⟩ := h; ⟨F, env, ds, o, hd, fun F' H' vs as x l r => m vs H' (k F' H' vs as x l r)⟩
/-- by the library's rules -/
theorem par2 {i j : Nat} {ts : List (Nat × Bool)} (h : PS X mst (L2.tPar i j (tP K G ts es))) : PS X mst (tPar [i, j] (tP K G ts es)) := h.imp fun Dn σ H q => tP_mono q fun vs H' ⟨hl, hn⟩ => by
  match vs, hl with
  | [v, w], _ => exact ⟨v, w, rfl, hn⟩
theorem par3 {i j l : Nat} {ts : List (Nat × Bool)} (h : PS X mst (L2.tPar3 i j l (tP K G ts es))) : PS X mst (tPar [i, j, l] (tP K G ts es)) := h.imp fun Dn σ H q => tP_mono q fun vs H' ⟨hl, hn⟩ => by
  match vs, hl with
  | [u, v, w], _ => exact ⟨u, v, w, rfl, hn⟩
/-- names stored one after another -/
def gNames : List Nat → TGs
  | [] => gNil
  | i :: is => gCons (gName i) (gNames is)
theorem gNames_run : ∀ (is : List Nat) (vs : List V) {σ : St} {H : Hp} {Q : St → Hp → Prop}, vs.length = is.length → Q ((is.zip vs).foldl (fun s p => s.set p.1 (some p.2)) σ) H → gNames is vs σ H Q
  | [], [], _, _, _, _, q => ⟨rfl, q⟩
  | i :: is, v :: vs, _, _, _, hl, q => ⟨v, vs, rfl, gNames_run is vs (by simpa using hl) q⟩
  | [], _ :: _, _, _, _, hl, _ => by simp at hl
  | _ :: _, [], _, _, _, hl, _ => by simp at hl
theorem s_asgPN {ts : List (Nat × Bool)} (hl : ts.length ≤ sizeLine) (h : PS X mst (tAsg (tTup (tP K G ts es)) (gTup K ts.length (gNames (ts.map (·.1)))))) : PS X mst (tS K G GI (.asgP ts es)) := h.imp fun Dn σ H ⟨F, env, r, ok, hx, p⟩ => by
  obtain ⟨ds, hds, hx⟩ := Option.bind_eq_some_iff.mp (show (evL G env es).bind _ = some r from hx)
  obtain ⟨env', hs, rfl⟩ := Option.map_eq_some_iff.mp hx
  refine ⟨F, env, ds, ok, hds, fun F' H' vs as x l rp => ⟨by rw [rp.length]; exact hl, fun q n => ⟨q, vs, rfl, .of upd_same, rp.length, gNames_run _ vs (by rw [rp.length, List.length_map]) ?_⟩⟩⟩
  have x2 : Ext F H F' (upd H' q (.tup vs)) := x.trans (.made n)
  have rp2 := rp.ext (Ext.made (F := F') (o := .tup vs) n)
  obtain ⟨o2, ow2⟩ := stores_ok (ok.ext x2 (l.made n)) rp2 hs fun a ha => own_ne ok (rp.fresh a ha)
  exact p F' _ _ ⟨.of_ext x2 (l.made n), o2, fun b h => (ow2 b h).imp id fun n => ⟨n, rfl⟩⟩
end
end Rx
end

section
set_option Elab.async false
set_option linter.all false
set_option maxRecDepth 100000
set_option maxHeartbeats 1000000
set_option autoImplicit false
/-! RxBlt: isinstance; sum, min, max of lists and tuples. -/
namespace Rx
open PySem PySem.Spec PyProof.Rows L2

section
variable {X : Cx} {G : Gm} {K : PySem.W.Frag} {F H : Hp} {σ : St} {env : Env} {Q : VK} {e a : E} {me ma : Expr} {pos : Pos} {pins : List (Addr × Obj)} {s : Shared}
/-! ### isinstance -/
def tyN : D → Option String
  | .non => some "NoneType" | .bl _ => some "bool" | .int _ => some "int" | .tup _ => some "tuple" | .lst _ => some "list" | _ => none
theorem ty_of {x : D} {v : V} {n : String} (h : tyN x = some n) (l : FLe F H) (r : RepB K F H x v) : TyX K H v (.type n) := by
  cases x <;> simp only [tyN] at h <;> cases h
  · rw [r.non]; exact .base .non
  · rw [r.bl]; exact .base (.bl _)
  · rw [r.int]; exact .base (.int _)
  · obtain ⟨a, vs, rfl, e, _⟩ := r.tup
    exact .base (.tup (l.tup e))
  · obtain ⟨a, vs, rfl, e, _⟩ := r.lst l
    exact .base (.lst e)
/-- the class that a test asks for -/
def isaN : B1 → Option String
  | .isInt => some "int" | .isBool => some "bool" | .isTup => some "tuple" | .isStr => some "str" | _ => none
theorem isa_ok {f : B1} {T : String} (hf : isaN f = some T) {x z : D} {v : V} (hz : opU f x = some z) (l : FLe F H) (r : RepB K F H x v) (k : Want K F H z Q) : rIsi K [v, .ty T] H Q := by
  have key : ∃ n b, tyN x = some n ∧ z = .bl b ∧ kitB n T = some b := by
    cases f <;> simp only [isaN] at hf <;> cases hf <;> cases x <;> simp only [opU] at hz <;> cases hz <;> exact ⟨_, _, rfl, rfl, by decide +kernel⟩
  obtain ⟨n, b, hn, rfl, hk⟩ := key
  exact ⟨v, .ty T, .type n, .type T, b, rfl, .ty T, ty_of hn l r, kit_ty hk, k.flat l rfl⟩
theorem r_isa {f : B1} {T : String} {pp pT : Pos} {u : Value} (hf : isaN f = some T) (hg : Gl X "isinstance") (hm : X.mg "isinstance" = none) (ha : PE X ma (tB X.K G a)) (hT : PE X (.Name T pT) (tC (.ty T))) (hs : starEach [ma, .Name T pT] X.env = (false, eval ma X.env) :: starEach [.Name T pT] X.env) :
    PE X (.Call (.Name "isinstance" pp) [ma, .Name T pT] [] pos) (tD X.K G (.b1 f a)) :=
  (pe_callB call_isi hg hm (by decide +kernel) (pa_cons ha (pa_cons hT pa_nil rfl) hs) (by decide) (by decide) hs rfl).imp fun σ H Q ⟨F, env, z, ok, hd, k⟩ => by
    obtain ⟨x, hx, hd⟩ := Option.bind_eq_some_iff.mp (show (bo env a (ev G env a)).bind _ = some z from hd)
    exact runB ok hx fun F1 H1 v x1 o1 r1 => isa_ok hf hd o1.le r1 fun F' H' w x2 => k F' H' w (x1.trans x2)

/-! ### an iterator over a list or a tuple -/
theorem inv_moved {ob : Obj} {s' : Shared} (I : Inv X pins σ H s) (m : Moved [s.heap.objs.size] (fun a b => b = a) { s with heap := s.heap.push ob } s') : Inv X pins σ H s' := by
  obtain ⟨h', g', d', t', os'⟩ := s'
  have e1 : g' = s.gens := m.gens
  have e2 : d' = s.drawn := m.drawn
  have e3 : os' = s.os := m.os
  subst e1 e2 e3
  refine I.kept (t' := t') fun b o e => m.heap b o (fun hm => ?_) (Heap.get?_push_of_some _ e)
  have : b = s.heap.objs.size := by simpa using hm
  exact absurd (Heap.lt_size e) (by rw [this]; exact Nat.lt_irrefl _)
theorem seq_iter (I : Inv X pins σ H s) {a : Addr} {vs : List V} (h : H a = some (.lst vs) ∨ H a = some (.tup vs)) {A' : Around} {E : Value → Shared → Prop} {R : Value → Shared → Prop}
    (k : ∀ (its : List Value) (ob : Obj), Vals vs its → (∀ A'' : Around, A''.handled = none → ∃ fp St, WalksS X.prog X.w A'' s.heap.objs.size fp [s.heap.objs.size] (fun a b => b = a) its.length (fun i v => its[i]? = some v) St ∧ St 0 { s with heap := s.heap.push ob } ∧ (∀ b ∈ fp, b < (s.heap.push ob).objs.size)) →
      R (.ref s.heap.objs.size) { s with heap := s.heap.push ob }) : wpAny (model X.prog X.w) A' (pyIter (.ref a)) R E s := by
  rcases h with h | h
  · obtain ⟨its, rv, p, hz⟩ := I.list (SqL.of h)
    have hl := p.isList
    have hlt : a < s.heap.objs.size := by obtain ⟨o, e, _⟩ := hl; exact Heap.lt_size e
    refine wpAny_pyIter_list hl (k its _ rv fun A'' hh => ?_)
    have W := (Walks.list (prog := X.prog) (w := X.w) hh s.heap.objs.size a (Nat.ne_of_lt hlt) its.toArray).toS
    simp only [List.size_toArray, List.getElem?_toArray] at W
    refine ⟨[s.heap.objs.size, a], _, W, ⟨⟨_, Heap.get?_push_size _ rfl, rfl, rfl⟩, hl.at fun o e => Heap.get?_push_of_some _ e⟩, fun b hb => ?_⟩
    have e : ∀ o, (s.heap.push o).objs.size = s.heap.objs.size + 1 := Heap.size_push _
    rw [e]
    rcases (by simpa using hb : b = s.heap.objs.size ∨ b = a) with z | z
    · rw [z]; exact Nat.lt_succ_self _
    · rw [z]; exact Nat.lt_succ_of_lt hlt
  · obtain ⟨its, rv, p, hz⟩ := I.tuple (SqT.of h)
    have hl : s.heap.IsTuple a its.toArray := p
    have hlt : a < s.heap.objs.size := p.lt
    refine wpAny_pyIter_tuple hl (k its _ rv fun A'' hh => ?_)
    have W := (Walks.tuple (prog := X.prog) (w := X.w) hh s.heap.objs.size a (Nat.ne_of_lt hlt) its.toArray).toS
    simp only [List.size_toArray, List.getElem?_toArray] at W
    refine ⟨[s.heap.objs.size, a], _, W, ⟨⟨_, Heap.get?_push_size _ rfl, rfl, rfl⟩, hl.at fun o e => Heap.get?_push_of_some _ e⟩, fun b hb => ?_⟩
    have e : ∀ o, (s.heap.push o).objs.size = s.heap.objs.size + 1 := Heap.size_push _
    rw [e]
    rcases (by simpa using hb : b = s.heap.objs.size ∨ b = a) with z | z
    · rw [z]; exact Nat.lt_succ_self _
    · rw [z]; exact Nat.lt_succ_of_lt hlt
/-- the values of a list or a tuple -/
def SeqV (H : Hp) (v : V) (vs : List V) : Prop := ∃ a, v = .ref a ∧ (H a = some (.lst vs) ∨ H a = some (.tup vs))
theorem seqV_of {x : D} {xs : List D} {v : V} (h : x.seq? = some xs) (l : FLe F H) (r : RepB K F H x v) : ∃ vs, SeqV H v vs ∧ RepL K F xs vs ∧ xs.length ≤ line := by
  rcases seq_some h with rfl | rfl
  · obtain ⟨a, vs, rfl, e, r, z⟩ := r.tup
    exact ⟨vs, ⟨a, rfl, .inr (l.tup e)⟩, r, z⟩
  · obtain ⟨a, vs, rfl, e, r, z⟩ := r.lst l
    exact ⟨vs, ⟨a, rfl, .inl e⟩, r, z⟩

/-! ### sum -/
def rSumA : List V → Hp → VK → Prop := fun vs H Q => ∃ (v : V) (ns : List Int), vs = [v] ∧ SeqV H v (ns.map V.int) ∧ Q (.int ns.sum) H
theorem preSum_of (ns : List Int) : ∀ k, k ≤ ns.length → preSum (fun i => ns.getD i 0) k = (ns.take k).sum
  | 0, _ => rfl
  | k + 1, h => by
    have hk : k < ns.length := h
    rw [preSum, preSum_of ns k (by omega), List.take_add_one, List.getElem?_eq_getElem hk, List.sum_append]
    simp [List.getD_eq_getElem?_getD, hk]
theorem call_sumA (hc : X.calm = true) : CallR X (.builtin "sum") rSumA := by
  intro pins s σ H xs us Q I r ⟨v, ns, e, ⟨a, e2, h⟩, q⟩
  subst e e2
  obtain ⟨u, rfl, ru⟩ := vals1 r
  cases ru
  have hh : X.A.in1.in1.handled = none := I.ok.hd hc
  refine call_sum_walkAnyS (seq_iter I h fun its ob rv w => ?_)
  obtain ⟨fp, St, W, h0, hb⟩ := w X.A.in1 (I.ok.hd hc)
  have hl : its.length = ns.length := by have := rv.length; simp at this; omega
  refine ⟨_, fp, _, _, its.length, _, St, fun i => ns.getD i 0, rfl, W, h0, hb, fun i v hv => ?_, fun s' t' m => ⟨.int ns.sum, H, inv_moved I m, ⟨t', ?_⟩, q⟩⟩
  · have hi : i < ns.length := by rw [← hl]; exact (List.getElem?_eq_some_iff.mp hv).1
    obtain ⟨u, hu, ru⟩ := rv.get (i := i) (x := .int ns[i]) (by simp [hi])
    rw [hv] at hu; cases hu
    obtain ⟨t, rfl⟩ := ru
    exact ⟨t, by simp [List.getD_eq_getElem?_getD, hi]⟩
  · rw [hl, preSum_of ns _ (Nat.le_refl _), List.take_length]
theorem sum_ok : B1ok K .sum rSumA := by
  intro x z F H v Q hz l rx k
  obtain ⟨xs, hxs, hz⟩ := Option.bind_eq_some_iff.mp (show x.seq?.bind _ = some z from hz)
  obtain ⟨ns, hns, rfl⟩ := Option.map_eq_some_iff.mp hz
  obtain rfl := ints_eq hns
  obtain ⟨vs, sv, r, _⟩ := seqV_of hxs l rx
  obtain rfl := r.ints
  exact ⟨v, ns, rfl, sv, k.flat l rfl⟩

/-! ### min, max -/
/-- the least one by its place -/
theorem least_at (ms : List D) : ∀ (m : D) (xs pre : List D) (j : Nat), ms = pre ++ xs → ms[j]? = some m → j < pre.length → argBest (fun i j => D.ltb (ms.getD i .non) (ms.getD j .non)) (pre.length - 1) = j →
    ms[argBest (fun i j => D.ltb (ms.getD i .non) (ms.getD j .non)) (ms.length - 1)]? = some (leastD m xs)
  | m, [], pre, j, e0, h, hj, e => by
    rw [List.append_nil] at e0
    subst e0
    rw [e, h]; rfl
  | m, x :: xs, pre, j, e0, h, hj, e => by
    have e1 : ms = (pre ++ [x]) ++ xs := by simp [e0]
    have hx : ms[pre.length]? = some x := by simp [e0]
    have hx' : ms.getD pre.length .non = x := by rw [List.getD_eq_getElem?_getD, hx]; rfl
    have hm' : ms.getD j .non = m := by rw [List.getD_eq_getElem?_getD, h]; rfl
    have step : argBest (fun i j => D.ltb (ms.getD i .non) (ms.getD j .non)) pre.length = if D.ltb x m then pre.length else j := by
      have hp : pre.length = (pre.length - 1) + 1 := by omega
      rw [hp, argBest, e, ← hp, hx', hm']
    unfold leastD
    cases hlt : D.ltb x m with
    | true =>
      rw [hlt] at step
      exact least_at ms x xs (pre ++ [x]) pre.length e1 hx (by simp) (by simpa using step)
    | false =>
      rw [hlt] at step
      exact least_at ms m xs (pre ++ [x]) j e1 h (by simp; omega) (by simpa using step)
theorem least_place (y : D) (ys : List D) : (y :: ys)[argBest (fun i j => D.ltb ((y :: ys).getD i .non) ((y :: ys).getD j .non)) ((y :: ys).length - 1)]? = some (leastD y ys) :=
  least_at (y :: ys) y ys [y] 0 rfl rfl (by simp) rfl
theorem reads_get {h : Heap} : ∀ {its : List Value} {ds : List PyData} {as : List Addr} {i : Nat} {v : Value}, ReadsAll h its ds as → its[i]? = some v → ∃ d bs, ds[i]? = some d ∧ Reads h v d bs
  | _, _, _, i, v, .nil, e => by simp at e
  | _, _, _, 0, v, .cons r _, e => by simp at e; subst e; exact ⟨_, _, rfl, r⟩
  | _, _, _, i + 1, v, .cons _ t, e => by
    obtain ⟨d, bs, h1, h2⟩ := reads_get (i := i) t (by simpa using e)
    exact ⟨d, bs, by simpa using h1, h2⟩
def rMinA (K : PySem.W.Frag) : List V → Hp → VK → Prop := fun vs H Q => ∃ (v : V) (ws : List V) (y : D) (ys : List D), vs = [v] ∧ SeqV H v ws ∧ DpAll K H ws (D.toPyL (y :: ys)) ∧ alikeAll (y :: ys) = true ∧ D.depthL (y :: ys) < 60 ∧
  ∀ (i : Nat) w, ws[i]? = some w → (y :: ys)[i]? = some (leastD y ys) → Q w H
theorem depth_at {xs : List D} {d : D} (h : d ∈ xs) : D.depth d ≤ D.depthL xs := by
  induction xs with
  | nil => cases h
  | cons x xs ih =>
    rw [D.depthL]
    rcases List.mem_cons.mp h with rfl | h
    · omega
    · have := ih h; omega
theorem alike_all {xs : List D} (h : alikeAll xs = true) {x y : D} (hx : x ∈ xs) (hy : y ∈ xs) : D.alike x y = true := by
  unfold alikeAll at h
  rw [List.all_eq_true] at h
  exact List.all_eq_true.mp (h x hx) y hy
theorem call_minA (hc : X.calm = true) (hu : X.A.units + 65 < cLine) : CallR X (.builtin "min") (rMinA X.K) := by
  intro pins s σ H xs us Q I r ⟨v, ws, y, ys, e, ⟨a, e2, h⟩, dp, al, dep, q⟩
  subst e e2
  obtain ⟨u, rfl, ru⟩ := vals1 r
  cases ru
  refine call_min_walkH (seq_iter I h fun its ob rv w => ?_)
  obtain ⟨fp, St, W, h0, hb⟩ := w X.A.in1 (I.ok.hd hc)
  obtain ⟨as, ra⟩ := Dp.readsAll I _ _ _ dp rv
  have hl : its.length = (y :: ys).length := by
    have h1 := rv.length
    have : ∀ {vs : List V} {ds : List PyData}, DpAll X.K H vs ds → vs.length = ds.length := by
      intro vs
      induction vs with
      | nil => intro ds h; cases h; rfl
      | cons v vs ih => intro ds h; cases h with | cons _ h => simp [ih h]
    have h2 := this dp
    rw [toPyL_eq, List.length_map] at h2
    omega
  have item : ∀ {i : Nat} {v : Value}, its[i]? = some v → ∃ d bs, (y :: ys)[i]? = some d ∧ Reads s.heap v (D.toPy d) bs := fun {i v} e => by
    obtain ⟨d, bs, h1, h2⟩ := reads_get ra e
    rw [toPyL_eq, List.getElem?_map] at h1
    obtain ⟨d', h3, rfl⟩ := Option.map_eq_some_iff.mp h1
    exact ⟨d', bs, h3, h2⟩
  refine ⟨_, fp, _, _, its.length, _, St, s.heap, fun i j => D.ltb ((y :: ys).getD i .non) ((y :: ys).getD j .non), rfl, W, h0, hb, by rw [hl]; simp, fun b o e => ?_, fun b o e => Heap.get?_push_of_some _ e, fun i j vi vj s' Q' E' keep h1 h2 hQ => ?_, fun v' s' hv m => ?_⟩
  · intro hm
    have : b = s.heap.objs.size := by simpa using hm
    exact absurd (Heap.lt_size e) (by rw [this]; exact Nat.lt_irrefl _)
  · obtain ⟨d, bs, e1, r1⟩ := item h1
    obtain ⟨d', bs', e2, r2⟩ := item h2
    have m1 := List.mem_of_getElem? e1
    have m2 := List.mem_of_getElem? e2
    have hal := alike_all al m1 m2
    have hq : Q' (.bool (D.ltb d d')) s' := by
      have g1 : (y :: ys).getD i .non = d := by rw [List.getD_eq_getElem?_getD, e1]; rfl
      have g2 : (y :: ys).getD j .non = d' := by rw [List.getD_eq_getElem?_getD, e2]; rfl
      have hQ' : Q' (.bool (D.ltb ((y :: ys).getD i .non) ((y :: ys).getD j .non))) s' := hQ
      rw [g1, g2] at hQ'; exact hQ'
    have hd := toPy_depth d
    have hd2 := depth_at m1
    refine PySem.W.rcLt_alike _ _ X.A.in1 s' vi vj bs bs' (Reads.keeps keep r1) (Reads.keeps keep r2) (alike_plain d d' hal) (fun z => ?_) ?_ _ _ _ _ (by rw [toPy_lt d d' hal]; exact hq)
    · cases d <;> first | (simp [D.toPy] at z; done) | (simp [D.alike] at hal; done)
    · show X.A.units + 1 + _ < _
      omega
  · have hp := least_place y ys
    rw [hl] at hv
    obtain ⟨d, bs, e1, r1⟩ := item hv
    have hi : argBest (fun i j => D.ltb ((y :: ys).getD i .non) ((y :: ys).getD j .non)) ((y :: ys).length - 1) < ws.length := by
      rw [rv.length]; exact (List.getElem?_eq_some_iff.mp hv).1
    obtain ⟨u, hu', ru⟩ := rv.get (List.getElem?_eq_getElem hi)
    rw [hv] at hu'; cases hu'
    exact ⟨_, H, inv_moved I m, ru, q _ _ (List.getElem?_eq_getElem hi) hp⟩
theorem min_ok : B1ok K .min (rMinA K) := by
  intro x z F H v Q hz l rx k
  obtain ⟨xs, hxs, hz⟩ := Option.bind_eq_some_iff.mp (show x.seq?.bind _ = some z from hz)
  cases xs with
  | nil => cases hz
  | cons y ys =>
    have hz : (if alikeAll (y :: ys) && D.plainL (y :: ys) && decide (D.depthL (y :: ys) < 60) then some (leastD y ys) else none) = some z := hz
    have hh : (alikeAll (y :: ys) && D.plainL (y :: ys) && decide (D.depthL (y :: ys) < 60)) = true := Decidable.byContradiction fun n => by rw [if_neg n] at hz; cases hz
    rw [if_pos hh] at hz
    cases hz
    simp only [Bool.and_eq_true, decide_eq_true_eq] at hh
    obtain ⟨vs, sv, r, _⟩ := seqV_of hxs l rx
    exact ⟨v, vs, y, ys, rfl, sv, repL_dp l _ hh.1.2 r, hh.1.1, hh.2, fun i w hw hi => by
      obtain ⟨d, hd, rd⟩ := r.get' hw
      rw [hi] at hd; cases hd
      exact k.flat l rd⟩
/-- max, of ints -/
def rMaxA : List V → Hp → VK → Prop := fun vs H Q => ∃ (v : V) (n : Int) (ns : List Int), vs = [v] ∧ SeqV H v ((n :: ns).map V.int) ∧ Q (.int (ns.foldl (fun m x => if m < x then x else m) n)) H
theorem most_ints : ∀ (n : Int) (ns : List Int), mostD (.int n) (ns.map .int) = .int (ns.foldl (fun m x => if m < x then x else m) n)
  | n, [] => rfl
  | n, x :: xs => by
    rw [List.map_cons, mostD, D.ltb]
    by_cases h : n < x
    · simp only [h, decide_true, if_true, List.foldl_cons]; exact most_ints x xs
    · simp only [h, decide_false, if_false, List.foldl_cons, Bool.false_eq_true]; exact most_ints n xs
theorem most_at (ms : List Int) : ∀ (m : Int) (xs pre : List Int) (j : Nat), ms = pre ++ xs → ms[j]? = some m → j < pre.length → argBest (fun i j => decide (ms.getD j 0 < ms.getD i 0)) (pre.length - 1) = j →
    ms[argBest (fun i j => decide (ms.getD j 0 < ms.getD i 0)) (ms.length - 1)]? = some (xs.foldl (fun m x => if m < x then x else m) m)
  | m, [], pre, j, e0, h, hj, e => by
    rw [List.append_nil] at e0
    subst e0
    rw [e, h]; rfl
  | m, x :: xs, pre, j, e0, h, hj, e => by
    have e1 : ms = (pre ++ [x]) ++ xs := by simp [e0]
    have hx : ms[pre.length]? = some x := by simp [e0]
    have hx' : ms.getD pre.length 0 = x := by rw [List.getD_eq_getElem?_getD, hx]; rfl
    have hm' : ms.getD j 0 = m := by rw [List.getD_eq_getElem?_getD, h]; rfl
    have step : argBest (fun i j => decide (ms.getD j 0 < ms.getD i 0)) pre.length = if m < x then pre.length else j := by
      have hp : pre.length = (pre.length - 1) + 1 := by omega
      rw [hp, argBest, e, ← hp, hx', hm']
      simp
    rw [List.foldl_cons]
    by_cases hlt : m < x
    · rw [if_pos hlt] at step ⊢
      exact most_at ms x xs (pre ++ [x]) pre.length e1 hx (by simp) (by simpa using step)
    · rw [if_neg hlt] at step ⊢
      exact most_at ms m xs (pre ++ [x]) j e1 h (by simp; omega) (by simpa using step)
theorem call_maxA (hc : X.calm = true) : CallR X (.builtin "max") rMaxA := by
  intro pins s σ H xs us Q I r ⟨v, n, ns, e, ⟨a, e2, h⟩, q⟩
  subst e e2
  obtain ⟨u, rfl, ru⟩ := vals1 r
  cases ru
  refine call_max_walkH (seq_iter I h fun its ob rv w => ?_)
  obtain ⟨fp, St, W, h0, hb⟩ := w X.A.in1 (I.ok.hd hc)
  have hl : its.length = (n :: ns).length := by have := rv.length; simp at this ⊢; omega
  have item : ∀ {i : Nat} {v : Value}, its[i]? = some v → ∃ t, v = .int ((n :: ns).getD i 0) t := fun {i v} e => by
    have hi : i < (n :: ns).length := by rw [← hl]; exact (List.getElem?_eq_some_iff.mp e).1
    obtain ⟨u, hu, ru⟩ := rv.get (i := i) (x := .int (n :: ns)[i]) (by rw [List.getElem?_map, List.getElem?_eq_getElem hi]; rfl)
    rw [e] at hu; cases hu
    obtain ⟨t, rfl⟩ := ru
    exact ⟨t, by rw [List.getD_eq_getElem?_getD, List.getElem?_eq_getElem hi]; rfl⟩
  refine ⟨_, fp, _, _, its.length, _, St, s.heap, fun i j => decide ((n :: ns).getD j 0 < (n :: ns).getD i 0), rfl, W, h0, hb, by rw [hl]; simp, fun b o e => ?_, fun b o e => Heap.get?_push_of_some _ e, fun i j vi vj s' Q' E' keep h1 h2 hQ => ?_, fun v' s' hv m => ?_⟩
  · intro hm
    have : b = s.heap.objs.size := by simpa using hm
    exact absurd (Heap.lt_size e) (by rw [this]; exact Nat.lt_irrefl _)
  · obtain ⟨t, rfl⟩ := item h1
    obtain ⟨t', rfl⟩ := item h2
    exact gt_int hQ
  · have hp := most_at (n :: ns) n ns [n] 0 rfl rfl (by simp) rfl
    rw [hl] at hv
    obtain ⟨t, rfl⟩ := item hv
    refine ⟨.int (ns.foldl (fun m x => if m < x then x else m) n), H, inv_moved I m, ⟨t, ?_⟩, q⟩
    rw [List.getD_eq_getElem?_getD, hp]; rfl
theorem max_ok : B1ok K .max rMaxA := by
  intro x z F H v Q hz l rx k
  obtain ⟨xs, hxs, hz⟩ := Option.bind_eq_some_iff.mp (show x.seq?.bind _ = some z from hz)
  obtain ⟨ns, hns, hz⟩ := Option.bind_eq_some_iff.mp (show (D.ints xs).bind _ = some z from hz)
  cases ns with
  | nil => cases hz
  | cons n ns =>
    cases hz
    obtain rfl := ints_eq hns
    obtain ⟨vs, sv, r, _⟩ := seqV_of hxs l rx
    obtain rfl := r.ints
    exact ⟨v, n, ns, rfl, sv, k.flat l rfl⟩
end
end Rx
end

section
set_option Elab.async false
set_option linter.all false
set_option maxRecDepth 100000
set_option maxHeartbeats 1000000
set_option autoImplicit false
/-! RxKit: the rules in short; defs. -/
namespace Rx
open PySem PySem.Spec PyProof.Rows L2

/-- the builtins that are called -/
def blts : List Str := ["len", "range", "sum", "min", "max", "all", "any", "tuple", "list", "sorted", "set", "int", "isinstance", "enumerate", "zip", "reversed", "bool", "str"]
structure Good (calm : Bool) (N : List Str) (A : Around) (mg : Str → Option Value) : Prop where
  calm : calm = true
  nd : N.Nodup
  hu : A.units + 66 < cLine
  bl : ∀ b ∈ blts, mg b = none
abbrev GoodX (X : Cx) : Prop := Good X.calm X.N X.A X.mg
/-- a def that may be called -/
structure CalC (P : Program) (w : World) (K : PySem.W.Frag) (mg : Str → Option Value) (base : Heap) (A : Around) (G : Gm) (x : Str) (f n : Nat) : Prop where
  ok : CallC P w K mg base A x n (spD K n (G f))
  len : ∀ ds d, G f ds = some d → ds.length = n
abbrev Cal (X : Cx) (G : Gm) (x : Str) (f n : Nat) : Prop := CalC X.prog X.w X.K X.mg X.base X.A G x f n
section
variable {X : Cx} {G GI : Gm} {e a b c : E} {me ma mb mc tg : Expr} {pos pp p2 : Pos} {fr : Bool} {k : IK} {es : List E} {mes : List Expr} {mst : Stmt} {msts : List Stmt} {st : S} {sts : List S}
theorem gb {s : Shared} {H : Hp} {sc : Scope} {ce : PySem.Env} {fp : List Addr} (g : GoodX X) : GoodX (X.blk s H sc ce fp) := g
theorem cb {s : Shared} {H : Hp} {sc : Scope} {ce : PySem.Env} {fp : List Addr} {x : Str} {f n : Nat} (c : Cal X G x f n) : Cal (X.blk s H sc ce fp) G x f n := c
theorem kpt {t : TT} (h : PW X me t) : PT X me t := h.pt
theorem kfz (h : PE X me (tN X.K G e)) : PE X me (tD X.K G e) := h.frz
def notVar : E → Bool | .var _ => false | _ => true
theorem nv {e : E} (h : notVar e = true) (i : Nat) : e ≠ .var i := fun z => by subst z; cases h
theorem nb (h : PE X me (tD X.K G e)) (hne : notVar e = true := by rfl) : PE X me (tB X.K G e) := tB_of (nv hne) h
theorem nw (h : PE X me (tD X.K G e)) (hne : notVar e = true := by rfl) : PE X me (tW X.K G e) := tW_of (nv hne) h
theorem xT (h : PE X me (tD X.K G e)) : PE X me (tX true X.K G e) := h
theorem xF (h : PE X me (tW X.K G e)) : PE X me (tX false X.K G e) := h
theorem kA (h : PE X ma (tD X.K G a)) (hr : PA X mes (tL X.K G es)) (hs : starEach (ma :: mes) X.env = (false, eval ma X.env) :: starEach mes X.env := by rfl) : PA X (ma :: mes) (tL X.K G (a :: es)) := a_cons h hr hs
theorem kM (h : PE X ma (tX fr X.K G a)) (hr : PA X mes (tM fr X.K G es)) (hs : starEach (ma :: mes) X.env = (false, eval ma X.env) :: starEach mes X.env := by rfl) : PA X (ma :: mes) (tM fr X.K G (a :: es)) := m_cons h hr hs
theorem k_add (ha : PE X ma (tB X.K G a)) (hb : PE X mb (tB X.K G b)) : PE X (.BinOp ma .Add mb pos) (tD X.K G (.bin .add a b)) := r_bin op_addA add_ok ha hb
theorem k_sub (ha : PE X ma (tB X.K G a)) (hb : PE X mb (tB X.K G b)) : PE X (.BinOp ma .Sub mb pos) (tD X.K G (.bin .sub a b)) := r_bin op_sub sub_ok ha hb
theorem k_mul (ha : PE X ma (tB X.K G a)) (hb : PE X mb (tB X.K G b)) : PE X (.BinOp ma .Mult mb pos) (tD X.K G (.bin .mul a b)) := r_bin op_mulA mul_ok ha hb
theorem k_fdiv (ha : PE X ma (tB X.K G a)) (hb : PE X mb (tB X.K G b)) : PE X (.BinOp ma .FloorDiv mb pos) (tD X.K G (.bin .fdiv a b)) := r_bin op_fdivA fdiv_ok ha hb
theorem k_mod (ha : PE X ma (tB X.K G a)) (hb : PE X mb (tB X.K G b)) : PE X (.BinOp ma .Mod mb pos) (tD X.K G (.bin .mod a b)) := r_bin op_modN mod_ok ha hb
theorem k_pow (ha : PE X ma (tB X.K G a)) (hb : PE X mb (tB X.K G b)) : PE X (.BinOp ma .Pow mb pos) (tD X.K G (.bin .pow a b)) := r_bin op_pow pow_ok ha hb
/-! new ones -/
theorem kn_add (ha : PE X ma (tB X.K G a)) (hb : PE X mb (tB X.K G b)) : PE X (.BinOp ma .Add mb pos) (fun σ H Q => tN X.K G (.bin .add a b) σ H Q ∧ ∀ F env d, Ok X.K F H σ env → ev G env (.bin .add a b) = some d → ∃ zs, d = .lst zs) := n_bin op_cat add_new ha hb
theorem kn_mul (ha : PE X ma (tB X.K G a)) (hb : PE X mb (tB X.K G b)) : PE X (.BinOp ma .Mult mb pos) (fun σ H Q => tN X.K G (.bin .mul a b) σ H Q ∧ ∀ F env d, Ok X.K F H σ env → ev G env (.bin .mul a b) = some d → ∃ zs, d = .lst zs) := n_bin op_rep mul_new ha hb
/-! comparisons -/
theorem c_lt (g : GoodX X) (ha : PE X ma (tB X.K G a)) (hb : PE X mb (tB X.K G b)) : PC X .Lt ma mb (tC2 X.K G .lt a b) := pc_op (op_ltA (by have := g.hu; omega)) lt_ok ha hb
theorem c_le (g : GoodX X) (ha : PE X ma (tB X.K G a)) (hb : PE X mb (tB X.K G b)) : PC X .LtE ma mb (tC2 X.K G .le a b) := pc_op op_le le_ok ha hb
theorem c_gt (g : GoodX X) (ha : PE X ma (tB X.K G a)) (hb : PE X mb (tB X.K G b)) : PC X .Gt ma mb (tC2 X.K G .gt a b) := pc_op op_gt gt_ok ha hb
theorem c_ge (g : GoodX X) (ha : PE X ma (tB X.K G a)) (hb : PE X mb (tB X.K G b)) : PC X .GtE ma mb (tC2 X.K G .ge a b) := pc_op op_ge ge_ok ha hb
theorem c_eq (g : GoodX X) (ha : PE X ma (tB X.K G a)) (hb : PE X mb (tB X.K G b)) : PC X .Eq ma mb (tC2 X.K G .eq a b) := pc_op (op_eqD (by have := g.hu; omega)) eq_ok ha hb
theorem c_ne (g : GoodX X) (ha : PE X ma (tB X.K G a)) (hb : PE X mb (tB X.K G b)) : PC X .NotEq ma mb (tC2 X.K G .ne a b) := pc_op (op_neD (by have := g.hu; omega)) ne_ok ha hb
theorem c_is (g : GoodX X) (ha : PE X ma (tB X.K G a)) (hb : PE X mb (tB X.K G b)) : PC X .Is ma mb (tC2 X.K G .is a b) := pc_op op_isN is_ok ha hb
theorem c_isnt (g : GoodX X) (ha : PE X ma (tB X.K G a)) (hb : PE X mb (tB X.K G b)) : PC X .IsNot ma mb (tC2 X.K G .isnt a b) := pc_op op_notN isnt_ok ha hb
theorem c_in (g : GoodX X) (ha : PE X ma (tB X.K G a)) (hb : PE X mb (tB X.K G b)) : PC X .In ma mb (tC2 X.K G .isin a b) := pc_in (by have := g.hu; omega) ha hb
theorem c_notin (g : GoodX X) (ha : PE X ma (tB X.K G a)) (hb : PE X mb (tB X.K G b)) : PC X .NotIn ma mb (tC2 X.K G .notin a b) := pc_notin (by have := g.hu; omega) ha hb
theorem k_cmp {o : CO} {op : CmpOp} (h : PC X op ma mb (tC2 X.K G o a b)) (hm : behindInMarks op mb = false := by rfl) : PE X (.Compare ma [op] [mb] pos) (tD X.K G (.cmp o a b)) := r_cmp h hm
theorem kt_cmp {o : CO} {op : CmpOp} (h : PC X op ma mb (tC2 X.K G o a b)) (hm : behindInMarks op mb = false := by rfl) : PT X (.Compare ma [op] [mb] pos) (tT X.K G (.val (.cmp o a b))) := t_cmp h hm
/-! a < b < c -/
structure Ck (X : Cx) (o : CO) (op : CmpOp) (r : R2) : Prop where
  ho : OpR X (compareOp op) r
  hr : R2ok X.K (cmpD o) r
theorem ck_lt (g : GoodX X) : Ck X .lt .Lt (rLtA X.K) := ⟨op_ltA (by have := g.hu; omega), lt_ok⟩
theorem ck_le (g : GoodX X) : Ck X .le .LtE (rI0 fun i j => .bl (decide (i ≤ j))) := ⟨op_le, le_ok⟩
theorem k_chn {o o' : CO} {op op' : CmpOp} {r r' : R2} (h : Ck X o op r) (h' : Ck X o' op' r') (ha : PE X ma (tB X.K G a)) (hb : PE X mb (tB X.K G b)) (hc : PE X mc (tB X.K G c)) (hm : lastMarks [op, op'] [mb, mc] = false := by rfl) :
    PE X (.Compare ma [op, op'] [mb, mc] pos) (tD X.K G (.chn o o' a b c)) := r_chn h.ho h'.ho h.hr h'.hr ha hb hc hm
theorem kt_chn {o o' : CO} {op op' : CmpOp} {r r' : R2} (h : Ck X o op r) (h' : Ck X o' op' r') (ha : PE X ma (tB X.K G a)) (hb : PE X mb (tB X.K G b)) (hc : PE X mc (tB X.K G c)) (hm : lastMarks [op, op'] [mb, mc] = false := by rfl) :
    PT X (.Compare ma [op, op'] [mb, mc] pos) (tT X.K G (.val (.chn o o' a b c))) := t_chn h.ho h'.ho h.hr h'.hr ha hb hc hm
theorem kt_val (ha : PE X ma (tB X.K G a)) (he : ∀ whole, isTrue ma X.env whole = (do let v ← whole; standAt ma.pos; holding [v] (truthy v)) := by intro _; rfl) : PT X ma (tT X.K G (.val a)) := t_val ha he
/-! subscripts -/
theorem k_ix (g : GoodX X) (ha : PE X ma (tB X.K G a)) (hb : PE X mb (tB X.K G b)) (hs : PlainIx mb := by intro _ _; rfl) : PE X (.Subscript ma mb pos) (tD X.K G (.sub a b)) := r_sub (by have := g.hu; omega) ha hb hs
/-! builtins -/
theorem k_len (g : GoodX X) (ha : PE X ma (tB X.K G a)) (hg : Gl X "len" := by rfl) (hs : starEach [ma] X.env = [(false, eval ma X.env)] := by rfl) : PE X (.Call (.Name "len" pp) [ma] [] pos) (tD X.K G (.b1 .len a)) :=
  r_b1 (id := "len") call_len len_ok hg (g.bl _ (by decide +kernel)) (by decide +kernel) ha hs
theorem k_sum (g : GoodX X) (ha : PE X ma (tB X.K G a)) (hg : Gl X "sum" := by rfl) (hs : starEach [ma] X.env = [(false, eval ma X.env)] := by rfl) : PE X (.Call (.Name "sum" pp) [ma] [] pos) (tD X.K G (.b1 .sum a)) :=
  r_b1 (id := "sum") (call_sumA g.calm) sum_ok hg (g.bl _ (by decide +kernel)) (by decide +kernel) ha hs
theorem k_min (g : GoodX X) (ha : PE X ma (tB X.K G a)) (hg : Gl X "min" := by rfl) (hs : starEach [ma] X.env = [(false, eval ma X.env)] := by rfl) : PE X (.Call (.Name "min" pp) [ma] [] pos) (tD X.K G (.b1 .min a)) :=
  r_b1 (id := "min") (call_minA g.calm (by have := g.hu; omega)) min_ok hg (g.bl _ (by decide +kernel)) (by decide +kernel) ha hs
theorem k_max (g : GoodX X) (ha : PE X ma (tB X.K G a)) (hg : Gl X "max" := by rfl) (hs : starEach [ma] X.env = [(false, eval ma X.env)] := by rfl) : PE X (.Call (.Name "max" pp) [ma] [] pos) (tD X.K G (.b1 .max a)) :=
  r_b1 (id := "max") (call_maxA g.calm) max_ok hg (g.bl _ (by decide +kernel)) (by decide +kernel) ha hs
theorem k_all (g : GoodX X) (ha : PE X ma (tB X.K G a)) (hg : Gl X "all" := by rfl) (hs : starEach [ma] X.env = [(false, eval ma X.env)] := by rfl) : PE X (.Call (.Name "all" pp) [ma] [] pos) (tD X.K G (.b1 .all a)) :=
  r_b1 (id := "all") (cr_all g.calm) all_ok hg (g.bl _ (by decide +kernel)) (by decide +kernel) ha hs
theorem k_any (g : GoodX X) (ha : PE X ma (tB X.K G a)) (hg : Gl X "any" := by rfl) (hs : starEach [ma] X.env = [(false, eval ma X.env)] := by rfl) : PE X (.Call (.Name "any" pp) [ma] [] pos) (tD X.K G (.b1 .any a)) :=
  r_b1 (id := "any") (cr_any g.calm) any_ok hg (g.bl _ (by decide +kernel)) (by decide +kernel) ha hs
theorem k_tuple (g : GoodX X) (ha : PE X ma (tB X.K G a)) (hg : Gl X "tuple" := by rfl) (hs : starEach [ma] X.env = [(false, eval ma X.env)] := by rfl) : PE X (.Call (.Name "tuple" pp) [ma] [] pos) (tD X.K G (.b1 .tuple a)) :=
  r_b1T (id := "tuple") call_tuple_of tuple_ok hg (g.bl _ (by decide +kernel)) (by decide +kernel) ha hs
theorem k_list (g : GoodX X) (ha : PE X ma (tB X.K G a)) (hg : Gl X "list" := by rfl) (hs : starEach [ma] X.env = [(false, eval ma X.env)] := by rfl) : PE X (.Call (.Name "list" pp) [ma] [] pos) (tD X.K G (.b1 .list a)) :=
  r_b1T (id := "list") call_list_of list_ok hg (g.bl _ (by decide +kernel)) (by decide +kernel) ha hs
theorem kn_list (g : GoodX X) (ha : PE X ma (tB X.K G a)) (hg : Gl X "list" := by rfl) (hs : starEach [ma] X.env = [(false, eval ma X.env)] := by rfl) : PE X (.Call (.Name "list" pp) [ma] [] pos) (tN X.K G (.b1 .list a)) :=
  n_list hg (g.bl _ (by decide +kernel)) ha hs
theorem k_int (g : GoodX X) (ha : PE X ma (tB X.K G a)) (hg : Gl X "int" := by rfl) (hs : starEach [ma] X.env = [(false, eval ma X.env)] := by rfl) : PE X (.Call (.Name "int" pp) [ma] [] pos) (tD X.K G (.b1 .int a)) :=
  r_b1T (id := "int") call_int1 int_ok hg (g.bl _ (by decide +kernel)) (by decide +kernel) ha hs
theorem k_max2 (g : GoodX X) (ha : PE X ma (tB X.K G a)) (hb : PE X mb (tB X.K G b)) (hg : Gl X "max" := by rfl) (hs : starEach [ma, mb] X.env = (false, eval ma X.env) :: starEach [mb] X.env := by rfl) (hs2 : starEach [mb] X.env = [(false, eval mb X.env)] := by rfl) :
    PE X (.Call (.Name "max" pp) [ma, mb] [] pos) (tD X.K G (.b2 .max a b)) := r_max2 g.calm hg (g.bl _ (by decide +kernel)) ha hb hs hs2
theorem k_min2 (g : GoodX X) (ha : PE X ma (tB X.K G a)) (hb : PE X mb (tB X.K G b)) (hg : Gl X "min" := by rfl) (hs : starEach [ma, mb] X.env = (false, eval ma X.env) :: starEach [mb] X.env := by rfl) (hs2 : starEach [mb] X.env = [(false, eval mb X.env)] := by rfl) :
    PE X (.Call (.Name "min" pp) [ma, mb] [] pos) (tD X.K G (.b2 .min a b)) := r_min2 g.calm hg (g.bl _ (by decide +kernel)) ha hb hs hs2
/-! iterators -/
theorem kw_r1 (g : GoodX X) (ha : PA X [ma] (tM fr X.K G [a])) (hg : Gl X "range" := by rfl) (hs : starEach [ma] X.env = [(false, eval ma X.env)] := by rfl) : PI X tg (.Call (.Name "range" pp) [ma] [] pos) (tI fr X.K G .r1 [a]) :=
  w_r1 hg (g.bl _ (by decide +kernel)) ha hs
theorem kw_r2 (g : GoodX X) (ha : PA X [ma, mb] (tM fr X.K G [a, b])) (hg : Gl X "range" := by rfl) (hs : starEach [ma, mb] X.env = [(false, eval ma X.env), (false, eval mb X.env)] := by rfl) (hs2 : starEach [mb] X.env = [(false, eval mb X.env)] := by rfl) :
    PI X tg (.Call (.Name "range" pp) [ma, mb] [] pos) (tI fr X.K G .r2 [a, b]) := w_r2 hg (g.bl _ (by decide +kernel)) ha hs hs2
theorem kw_enum {elts : List Expr} {kk : Nat} {tpos : Pos} (g : GoodX X) (ha : PA X [ma] (tM fr X.K G [a])) (hg : Gl X "enumerate" := by rfl) (hs : starEach [ma] X.env = [(false, eval ma X.env)] := by rfl) :
    PI X (.Tuple elts kk tpos) (.Call (.Name "enumerate" pp) [ma] [] pos) (tI fr X.K G .enum [a]) := w_enum hg (g.bl _ (by decide +kernel)) ha hs
theorem kw_rev (g : GoodX X) (ha : PE X ma (tX fr X.K G a)) (hg : Gl X "reversed" := by rfl) (hs : starEach [ma] X.env = (false, eval ma X.env) :: starEach [] X.env := by rfl) : PI X tg (.Call (.Name "reversed" pp) [ma] [] pos) (tI fr X.K G .rev [a]) :=
  w_rev hg (g.bl _ (by decide +kernel)) ha hs
/-! calls -/
theorem k_call {x : Str} {f n : Nat} (c : Cal X G x f n) (ha : PA X (me :: mes) (tL X.K G es)) (hg : Gl X x := by rfl) (hdb : (x == ("__debug__" : Str)) = false := by decide +kernel) (he : starEach (me :: mes) X.env = (false, eval me X.env) :: starEach mes X.env := by rfl)
    (hpl : (backTo pos (starEach mes X.env)).any (·.1) = false := by rfl) : PE X (.Call (.Name x pp) (me :: mes) [] pos) (tD X.K G (.call f es)) := r_call c.ok c.len hg ha hdb he hpl
/-! targets -/
theorem kg (i : Nat) {x : Str} (g : GoodX X) (hi : X.N[i]? = some x := by rfl) (hx : Loc X.env.scope x := by first | exact Or.inl rfl | exact Or.inr rfl) (hf : X.fn x = true ∨ X.env.scope.names.lookup x = some .local := by first | exact Or.inl rfl | exact Or.inr rfl) : PG X (.Name x pos) (tG X.K (.name i)) :=
  g_name (pg_name g.nd hi hx hf)
theorem kgc {t : T} {ts : List T} (h1 : PG X me (tG X.K t)) (h2 : PGs X mes (tGs X.K ts)) (hs : (assignEach (me :: mes) X.env).map (·.2) = assign me X.env :: (assignEach mes X.env).map (·.2) := by rfl) : PGs X (me :: mes) (tGs X.K (t :: ts)) := g_cons h1 h2 hs
theorem kgt {kk n : Nat} {ts : List T} (g : GoodX X) (h : PGs X mes (tGs X.K ts)) (hn : (assignEach mes X.env).length = n := by rfl) (hl : ts.length = n := by rfl) (hst : (assignEach mes X.env).findIdx? (·.1) = none := by rfl) : PG X (.Tuple mes kk pos) (tG X.K (.tup ts)) := g_tup g.calm h hn hl hst
end
end Rx
end

section
set_option Elab.async false
set_option linter.all false
set_option maxRecDepth 100000
set_option maxHeartbeats 1000000
set_option autoImplicit false
/-! RxKit2: statements and comprehensions in short; defs. -/
namespace Rx
open PySem PySem.Spec PyProof.Rows L2
section
variable {X : Cx} {G GI : Gm} {e a b c : E} {me ma mb mc tg : Expr} {pos pp p2 pT : Pos} {fr : Bool} {k : IK} {es : List E} {mes : List Expr} {mst : Stmt} {msts mas mbs : List Stmt} {st : S} {sts : List S}
theorem pT_ (g : GoodX X) {T : String} (hb : (T : Str) ∈ blts) (hv : bootBuiltins T = some (.type T)) (hn : (T : Str) ≠ "__name__") (hd : ((T : Str) == ("__debug__" : Str)) = false) (hT : Gl X T) : PE X (.Name T pT) (tC (.ty T)) :=
  pe_bltn hT (g.bl _ hb) hv rfl hn hd
theorem k_isInt (g : GoodX X) (ha : PE X ma (tB X.K G a)) (hg : Gl X "isinstance" := by rfl) (hT : Gl X "int" := by rfl) (hs : starEach [ma, .Name "int" pT] X.env = (false, eval ma X.env) :: starEach [.Name "int" pT] X.env := by rfl) :
    PE X (.Call (.Name "isinstance" pp) [ma, .Name "int" pT] [] pos) (tD X.K G (.b1 .isInt a)) := r_isa (u := .none) (T := "int") rfl hg (g.bl _ (by decide +kernel)) ha (pT_ g (by decide +kernel) (by decide +kernel) (by decide) (by decide) hT) hs
theorem k_isBool (g : GoodX X) (ha : PE X ma (tB X.K G a)) (hg : Gl X "isinstance" := by rfl) (hT : Gl X "bool" := by rfl) (hs : starEach [ma, .Name "bool" pT] X.env = (false, eval ma X.env) :: starEach [.Name "bool" pT] X.env := by rfl) :
    PE X (.Call (.Name "isinstance" pp) [ma, .Name "bool" pT] [] pos) (tD X.K G (.b1 .isBool a)) := r_isa (u := .none) (T := "bool") rfl hg (g.bl _ (by decide +kernel)) ha (pT_ g (by decide +kernel) (by decide +kernel) (by decide) (by decide) hT) hs
theorem k_isTup (g : GoodX X) (ha : PE X ma (tB X.K G a)) (hg : Gl X "isinstance" := by rfl) (hT : Gl X "tuple" := by rfl) (hs : starEach [ma, .Name "tuple" pT] X.env = (false, eval ma X.env) :: starEach [.Name "tuple" pT] X.env := by rfl) :
    PE X (.Call (.Name "isinstance" pp) [ma, .Name "tuple" pT] [] pos) (tD X.K G (.b1 .isTup a)) := r_isa (u := .none) (T := "tuple") rfl hg (g.bl _ (by decide +kernel)) ha (pT_ g (by decide +kernel) (by decide +kernel) (by decide) (by decide) hT) hs
theorem k_isStr (g : GoodX X) (ha : PE X ma (tB X.K G a)) (hg : Gl X "isinstance" := by rfl) (hT : Gl X "str" := by rfl) (hs : starEach [ma, .Name "str" pT] X.env = (false, eval ma X.env) :: starEach [.Name "str" pT] X.env := by rfl) :
    PE X (.Call (.Name "isinstance" pp) [ma, .Name "str" pT] [] pos) (tD X.K G (.b1 .isStr a)) := r_isa (u := .none) (T := "str") rfl hg (g.bl _ (by decide +kernel)) ha (pT_ g (by decide +kernel) (by decide +kernel) (by decide) (by decide) hT) hs
/-! ### always a list -/
def isL : E → Bool
  | .lst _ => true | .comp _ _ _ _ _ _ => true | .comp2 _ _ _ _ _ _ _ _ _ _ _ => true
  | .bin .add a _ => isL a | .bin .mul a _ => isL a
  | .b1 .list _ => true | .b1 .sorted _ => true
  | _ => false
theorem fits_l {xs : List D} {d : D} (h : fits xs = some d) : ∃ zs, d = .lst zs := by
  unfold fits at h; split at h <;> cases h; exact ⟨_, rfl⟩
theorem isL_ev : ∀ {e : E} {env : Env} {d : D}, isL e = true → ev G env e = some d → ∃ zs, d = .lst zs
  | .lst es, env, d, _, h => by
    obtain ⟨xs, _, h⟩ := Option.bind_eq_some_iff.mp (show (evL G env es).bind _ = some d from h)
    exact fits_l h
  | .comp .., env, d, _, h => by
    unfold ev at h
    obtain ⟨xs, _, h⟩ := Option.bind_eq_some_iff.mp h
    obtain ⟨xs, _, h⟩ := Option.bind_eq_some_iff.mp h
    obtain ⟨xs, _, h⟩ := Option.bind_eq_some_iff.mp h
    exact fits_l h
  | .comp2 .., env, d, _, h => by
    unfold ev at h
    obtain ⟨xs, _, h⟩ := Option.bind_eq_some_iff.mp h
    obtain ⟨xs, _, h⟩ := Option.bind_eq_some_iff.mp h
    obtain ⟨xs, _, h⟩ := Option.bind_eq_some_iff.mp h
    exact fits_l h
  | .bin .add a b, env, d, hl, h => by
    obtain ⟨x, hx, h⟩ := Option.bind_eq_some_iff.mp (show (bo env a (ev G env a)).bind _ = some d from h)
    obtain ⟨y, _, h⟩ := Option.bind_eq_some_iff.mp h
    have hx : ev G env a = some x := by cases a <;> first | exact hx | cases hl
    obtain ⟨zs, rfl⟩ := isL_ev (e := a) hl hx
    exact new_add h rfl
  | .bin .mul a b, env, d, hl, h => by
    obtain ⟨x, hx, h⟩ := Option.bind_eq_some_iff.mp (show (bo env a (ev G env a)).bind _ = some d from h)
    obtain ⟨y, _, h⟩ := Option.bind_eq_some_iff.mp h
    have hx : ev G env a = some x := by cases a <;> first | exact hx | cases hl
    obtain ⟨zs, rfl⟩ := isL_ev (e := a) hl hx
    cases y <;> simp only [opB] at h <;> try cases h
    split at h <;> cases h
    exact ⟨_, rfl⟩
  | .b1 .list a, env, d, _, h => by
    obtain ⟨x, _, h⟩ := Option.bind_eq_some_iff.mp (show (bo env a (ev G env a)).bind _ = some d from h)
    obtain ⟨zs, _, rfl⟩ := Option.map_eq_some_iff.mp (show x.seq?.map D.lst = some d from h)
    exact ⟨_, rfl⟩
  | .b1 .sorted a, env, d, _, h => by
    obtain ⟨x, _, h⟩ := Option.bind_eq_some_iff.mp (show (bo env a (ev G env a)).bind _ = some d from h)
    obtain ⟨zs, _, h⟩ := Option.bind_eq_some_iff.mp (show x.seq?.bind (fun xs => if alikeAll xs && sortable xs && D.plainL xs && decide (D.depthL xs < 60) then some (D.lst (sortD xs)) else none) = some d from h)
    split at h <;> cases h
    exact ⟨_, rfl⟩
theorem kn_of (hl : isL e = true) (h : PE X me (fun σ H Q => tN X.K G e σ H Q ∧ ∀ F env d, Ok X.K F H σ env → ev G env e = some d → ∃ zs, d = .lst zs)) : PE X me (tN X.K G e) :=
  h.imp fun σ H Q q => ⟨q, fun F env d _ he => isL_ev hl he⟩
theorem kn_ad (ha : PE X ma (tB X.K G a)) (hb : PE X mb (tB X.K G b)) (hl : isL (.bin .add a b) = true := by rfl) : PE X (.BinOp ma .Add mb pos) (tN X.K G (.bin .add a b)) := kn_of hl (kn_add ha hb)
theorem kn_ml (ha : PE X ma (tB X.K G a)) (hb : PE X mb (tB X.K G b)) (hl : isL (.bin .mul a b) = true := by rfl) : PE X (.BinOp ma .Mult mb pos) (tN X.K G (.bin .mul a b)) := kn_of hl (kn_mul ha hb)
/-! ### comprehensions -/
def blkB (N : List Str) (sc scope : Scope) (own : List (Str × Nat)) : Bool :=
  (scope.kind == .function) && (scope.names.all fun y => scope.names.lookup y.1 == some y.2) && (own.all fun p => N[p.2]? == some p.1) &&
  (scope.names.all fun y => if y.2 == .free then sc.names.lookup y.1 == some .cell || sc.names.lookup y.1 == some .free else true) &&
  (scope.names.all fun y => if y.2 == .local || y.2 == .cell then (own.map (·.1)).contains y.1 || !N.contains y.1 else true)
theorem blk_of {N : List Str} {sc scope : Scope} {own : List (Str × Nat)} (h : blkB N sc scope own = true) : BlkOk N sc scope own := by
  simp only [blkB, Bool.and_eq_true, List.all_eq_true] at h
  obtain ⟨⟨⟨⟨h1, h2⟩, h3⟩, h4⟩, h5⟩ := h
  refine ⟨by simpa using h1, fun y hy => by simpa using h2 y hy, fun p hp => by simpa using h3 p hp, fun y hy e => ?_, fun y hy e => ?_⟩
  · have := h4 y hy
    rw [if_pos (by simp [e])] at this
    simpa using this
  · have := h5 y hy
    rw [if_pos (by rcases e with e | e <;> simp [e])] at this
    simpa using this
/-- the names of a block, all of them its own -/
def ownB (t : T) (own : List (Str × Nat)) : Bool := (T.names t).all fun j => (own.map (·.2)).contains j
theorem own_of {t : T} {own : List (Str × Nat)} (h : ownB t own = true) : ∀ j ∈ T.names t, j ∈ own.map (·.2) := fun j hj => by
  have := List.all_eq_true.mp h j hj
  simpa using this
def ownB2 (t : T) (vs : List Nat) (own : List (Str × Nat)) : Bool := ((T.names t).all fun j => vs.contains j) && vs.all fun j => (own.map (·.2)).contains j
variable {t t2 : T} {fs fs2 : List C} {elt iter tg1 iter1 : Expr} {ifs ifs1 : List Expr} {scope : Scope} {own : List (Str × Nat)} {vs1 : List Nat} {k2 : IK} {es2 : List E} {spos py : Pos}
theorem kn_comp (own : List (Str × Nat)) (g : GoodX X) (hi : PI X tg iter (tI false X.K G k es))
    (hg : ∀ (s : Shared) (H : Hp) (C : Addr) (cl : List (Str × Addr)) (fp : List Addr), PG (X.blk s H scope (compEnvC scope cl C X.env) fp) tg (tG X.K t)) (ht : ∀ (s : Shared) (H : Hp) (C : Addr) (cl : List (Str × Addr)) (fp : List Addr), PTs (X.blk s H scope (compEnvC scope cl C X.env) fp) ifs (tTL X.K G fs))
    (he : ∀ (s : Shared) (H : Hp) (C : Addr) (cl : List (Str × Addr)) (fp : List Addr), PE (X.blk s H scope (compEnvC scope cl C X.env) fp) elt (tD X.K G e))
    (hnm : ownB t own = true := by rfl) (ok : blkB X.N X.env.scope scope own = true := by kernel_rfl) (hs : ∀ x, foldedSetIterable iter X.env x = pure x := by intro _; rfl) :
    PE X (.ListComp elt [⟨tg, iter, ifs, 0⟩] scope pos) (tN X.K G (.comp e t k es fs (own.map (·.2)))) := r_comp (own_of hnm) g.calm g.nd hi (blk_of ok) hg ht he hs
theorem kn_comp2 (own : List (Str × Nat)) (g : GoodX X) (hi : PI X tg iter (tI false X.K G k es))
    (hg : ∀ (s : Shared) (H : Hp) (C : Addr) (cl : List (Str × Addr)) (fp : List Addr), PG (X.blk s H scope (compEnvC scope cl C X.env) fp) tg (tG X.K t)) (ht : ∀ (s : Shared) (H : Hp) (C : Addr) (cl : List (Str × Addr)) (fp : List Addr), PTs (X.blk s H scope (compEnvC scope cl C X.env) fp) ifs (tTL X.K G fs))
    (hi1 : ∀ (s : Shared) (H : Hp) (C : Addr) (cl : List (Str × Addr)) (fp : List Addr), PI (X.blk s H scope (compEnvC scope cl C X.env) fp) tg1 iter1 (tI false X.K G k2 es2))
    (hg1 : ∀ (s : Shared) (H : Hp) (C : Addr) (cl : List (Str × Addr)) (fp : List Addr), PG (X.blk s H scope (compEnvC scope cl C X.env) fp) tg1 (tG X.K t2)) (ht1 : ∀ (s : Shared) (H : Hp) (C : Addr) (cl : List (Str × Addr)) (fp : List Addr), PTs (X.blk s H scope (compEnvC scope cl C X.env) fp) ifs1 (tTL X.K G fs2))
    (he : ∀ (s : Shared) (H : Hp) (C : Addr) (cl : List (Str × Addr)) (fp : List Addr), PE (X.blk s H scope (compEnvC scope cl C X.env) fp) elt (tD X.K G e))
    (hnm : ownB t own = true := by rfl) (hnm2 : ownB2 t2 vs1 own = true := by rfl) (ok : blkB X.N X.env.scope scope own = true := by kernel_rfl) (hs : ∀ x, foldedSetIterable iter X.env x = pure x := by intro _; rfl) (hs1 : ∀ env x, foldedSetIterable iter1 env x = pure x := by intro _ _; rfl) :
    PE X (.ListComp elt [⟨tg, iter, ifs, 0⟩, ⟨tg1, iter1, ifs1, 0⟩] scope pos) (tN X.K G (.comp2 e t k es fs t2 k2 es2 fs2 (own.map (·.2)) vs1)) := by
  simp only [ownB2, Bool.and_eq_true, List.all_eq_true] at hnm2
  exact r_comp2 (own_of hnm) (fun j hj => by simpa using hnm2.1 j hj) g.calm g.nd hi (blk_of ok) (fun j hj => by simpa using hnm2.2 j hj) hg ht hi1 hg1 ht1 he hs hs1
/-! assigned to a name on the same line -/
theorem ks_comp (i : Nat) {y : Str} (own : List (Str × Nat)) (g : GoodX X) (hi : PI X tg iter (tI false X.K G k es))
    (hg : ∀ (s : Shared) (H : Hp) (C : Addr) (cl : List (Str × Addr)) (fp : List Addr), PG (X.blk s H scope (compEnvC scope cl C X.env) fp) tg (tG X.K t)) (ht : ∀ (s : Shared) (H : Hp) (C : Addr) (cl : List (Str × Addr)) (fp : List Addr), PTs (X.blk s H scope (compEnvC scope cl C X.env) fp) ifs (tTL X.K G fs))
    (he : ∀ (s : Shared) (H : Hp) (C : Addr) (cl : List (Str × Addr)) (fp : List Addr), PE (X.blk s H scope (compEnvC scope cl C X.env) fp) elt (tD X.K G e))
    (hy : X.N[i]? = some y := by rfl) (hyl : X.env.scope.names.lookup y = some .local := by rfl) (hsw : swapsWith (.ListComp elt [⟨tg, iter, ifs, 0⟩] scope pos) (some (.Name y py)) spos.line X.env = pure true := by rfl)
    (hnm : ownB t own = true := by rfl) (ok : blkB X.N X.env.scope scope own = true := by kernel_rfl) (hs : ∀ x, foldedSetIterable iter X.env x = pure x := by intro _; rfl) :
    PS X (.Assign [.Name y py] (.ListComp elt [⟨tg, iter, ifs, 0⟩] scope pos) spos) (tAsg (tN X.K G (.comp e t k es fs (own.map (·.2)))) (gName i)) :=
  (ps_setLc g.calm g.nd hy hyl hsw hi (blk_of ok) hg ht he hs).imp fun D σ H h => lc_reads (own_of hnm) h
theorem ks_comp2 (i : Nat) {y : Str} (own : List (Str × Nat)) (g : GoodX X) (hi : PI X tg iter (tI false X.K G k es))
    (hg : ∀ (s : Shared) (H : Hp) (C : Addr) (cl : List (Str × Addr)) (fp : List Addr), PG (X.blk s H scope (compEnvC scope cl C X.env) fp) tg (tG X.K t)) (ht : ∀ (s : Shared) (H : Hp) (C : Addr) (cl : List (Str × Addr)) (fp : List Addr), PTs (X.blk s H scope (compEnvC scope cl C X.env) fp) ifs (tTL X.K G fs))
    (hi1 : ∀ (s : Shared) (H : Hp) (C : Addr) (cl : List (Str × Addr)) (fp : List Addr), PI (X.blk s H scope (compEnvC scope cl C X.env) fp) tg1 iter1 (tI false X.K G k2 es2))
    (hg1 : ∀ (s : Shared) (H : Hp) (C : Addr) (cl : List (Str × Addr)) (fp : List Addr), PG (X.blk s H scope (compEnvC scope cl C X.env) fp) tg1 (tG X.K t2)) (ht1 : ∀ (s : Shared) (H : Hp) (C : Addr) (cl : List (Str × Addr)) (fp : List Addr), PTs (X.blk s H scope (compEnvC scope cl C X.env) fp) ifs1 (tTL X.K G fs2))
    (he : ∀ (s : Shared) (H : Hp) (C : Addr) (cl : List (Str × Addr)) (fp : List Addr), PE (X.blk s H scope (compEnvC scope cl C X.env) fp) elt (tD X.K G e))
    (hy : X.N[i]? = some y := by rfl) (hyl : X.env.scope.names.lookup y = some .local := by rfl) (hsw : swapsWith (.ListComp elt [⟨tg, iter, ifs, 0⟩, ⟨tg1, iter1, ifs1, 0⟩] scope pos) (some (.Name y py)) spos.line X.env = pure true := by rfl)
    (hnm : ownB t own = true := by rfl) (hnm2 : ownB2 t2 vs1 own = true := by rfl) (ok : blkB X.N X.env.scope scope own = true := by kernel_rfl) (hs : ∀ x, foldedSetIterable iter X.env x = pure x := by intro _; rfl) (hs1 : ∀ env x, foldedSetIterable iter1 env x = pure x := by intro _ _; rfl) :
    PS X (.Assign [.Name y py] (.ListComp elt [⟨tg, iter, ifs, 0⟩, ⟨tg1, iter1, ifs1, 0⟩] scope pos) spos) (tAsg (tN X.K G (.comp2 e t k es fs t2 k2 es2 fs2 (own.map (·.2)) vs1)) (gName i)) := by
  simp only [ownB2, Bool.and_eq_true, List.all_eq_true] at hnm2
  exact (ps_setLc2 g.calm g.nd hy hyl hsw hi (blk_of ok) (fun j hj => by simpa using hnm2.2 j hj) hg ht hi1 hg1 ht1 he hs hs1).imp fun D σ H h => lc2_reads (own_of hnm) (fun j hj => by simpa using hnm2.1 j hj) h
/-! ### statements -/
theorem ks_frz {i : Nat} (h : PS X mst (tAsg (tN X.K G e) (gName i))) : PS X mst (tAsg (tD X.K G e) (gName i)) := h.imp fun D σ H q => tAsg_frz q
theorem ks_set (i : Nat) {x : Str} {te : TE} (g : GoodX X) (he : PE X me te) (hi : X.N[i]? = some x := by rfl) (hx : Loc X.env.scope x := by first | exact Or.inl rfl | exact Or.inr rfl) (hs : swapsWith me (some (.Name x p2)) pos.line X.env = pure false := by rfl)
    (hf : X.fn x = true ∨ X.env.scope.names.lookup x = some .local := by first | exact Or.inl rfl | exact Or.inr rfl) : PS X (.Assign [.Name x p2] me pos) (tAsg te (gName i)) := ps_set g.nd hi hx he hs hf
theorem ks_asgT {gt : TG} {te : TE} (he : PE X me te) (hg : PG X tg gt) (hs : swapsWithSole [tg] me pos.line X.env = pure false := by rfl) (hw : swappedStores [tg] me X.env = pure none := by rfl)
    (h1 : (assignEach [tg] X.env).map (·.2) = [assign tg X.env] := by rfl) : PS X (.Assign [tg] me pos) (tAsg te gt) := ps_asg he hg hs hw h1
theorem kp_val {i : Nat} {ts : List (Nat × Bool)} (ha : PE X ma (tD X.K G a)) (hr : PA X mes (tP X.K G ts es)) (hs : starEach (ma :: mes) X.env = (false, eval ma X.env) :: starEach mes X.env := by rfl) : PA X (ma :: mes) (tP X.K G ((i, false) :: ts) (a :: es)) := p_val ha hr hs
theorem kp_new {i : Nat} {ts : List (Nat × Bool)} (ha : PE X ma (tN X.K G a)) (hr : PA X mes (tP X.K G ts es)) (hs : starEach (ma :: mes) X.env = (false, eval ma X.env) :: starEach mes X.env := by rfl) : PA X (ma :: mes) (tP X.K G ((i, true) :: ts) (a :: es)) := p_new ha hr hs
theorem ks_par2 {i j : Nat} {bi bj : Bool} {x y : Str} {px py pt pt2 : Pos} {kt k2 : Nat} (g : GoodX X) (ha : PA X [ma, mb] (tP X.K G [(i, bi), (j, bj)] es)) (hi : X.N[i]? = some x := by rfl) (hj : X.N[j]? = some y := by rfl) (hij : i ≠ j := by decide)
    (hx : X.env.scope.names.lookup x = some .local := by rfl) (hy : X.env.scope.names.lookup y = some .local := by rfl)
    (hw : swappedStores [.Tuple [.Name x px, .Name y py] kt pt] (.Tuple [ma, mb] k2 pt2) X.env = pure (some [x, y]) := by rfl)
    (hs : swapsWithSole [.Tuple [.Name x px, .Name y py] kt pt] (.Tuple [ma, mb] k2 pt2) pos.line X.env = pure false := by rfl) :
    PS X (.Assign [.Tuple [.Name x px, .Name y py] kt pt] (.Tuple [ma, mb] k2 pt2) pos) (tS X.K G GI (.asgP [(i, bi), (j, bj)] es)) :=
  s_asgP (ts := [(i, bi), (j, bj)]) (par2 (ps_par g.calm g.nd hi hj hij hx hy ha hw hs))
theorem ks_par3 {i j l : Nat} {bi bj bl : Bool} {x y z : Str} {px py pz pt pt2 : Pos} {kt k2 : Nat} (g : GoodX X) (ha : PA X [ma, mb, mc] (tP X.K G [(i, bi), (j, bj), (l, bl)] es)) (hi : X.N[i]? = some x := by rfl) (hj : X.N[j]? = some y := by rfl) (hl : X.N[l]? = some z := by rfl) (hij : i ≠ j := by decide) (hil : i ≠ l := by decide) (hjl : j ≠ l := by decide)
    (hx : X.env.scope.names.lookup x = some .local := by rfl) (hy : X.env.scope.names.lookup y = some .local := by rfl) (hz : X.env.scope.names.lookup z = some .local := by rfl)
    (hw : swappedStores [.Tuple [.Name x px, .Name y py, .Name z pz] kt pt] (.Tuple [ma, mb, mc] k2 pt2) X.env = pure (some [x, y, z]) := by rfl)
    (hs : swapsWithSole [.Tuple [.Name x px, .Name y py, .Name z pz] kt pt] (.Tuple [ma, mb, mc] k2 pt2) pos.line X.env = pure false := by rfl) :
    PS X (.Assign [.Tuple [.Name x px, .Name y py, .Name z pz] kt pt] (.Tuple [ma, mb, mc] k2 pt2) pos) (tS X.K G GI (.asgP [(i, bi), (j, bj), (l, bl)] es)) :=
  s_asgP (ts := [(i, bi), (j, bj), (l, bl)]) (par3 (ps_par3 g.calm g.nd hi hj hl hij hil hjl hx hy hz ha hw hs))
theorem kgn (i : Nat) {x : Str} (g : GoodX X) (hi : X.N[i]? = some x := by rfl) (hx : Loc X.env.scope x := by first | exact Or.inl rfl | exact Or.inr rfl) (hf : X.fn x = true ∨ X.env.scope.names.lookup x = some .local := by first | exact Or.inl rfl | exact Or.inr rfl) : PG X (.Name x pos) (gName i) := pg_name g.nd hi hx hf
theorem ks_parN {ts : List (Nat × Bool)} {kt k2 : Nat} {pt pt2 : Pos} {tes : List Expr} (g : GoodX X) (ha : PA X mes (tP X.K G ts es)) (hg : PGs X tes (gNames (ts.map (·.1)))) (hl : ts.length ≤ 64 := by decide) (hn : (assignEach tes X.env).length = ts.length := by rfl) (hst : (assignEach tes X.env).findIdx? (·.1) = none := by rfl)
    (hs : swapsWithSole [.Tuple tes kt pt] (.Tuple mes k2 pt2) pos.line X.env = pure false := by rfl) (hw : swappedStores [.Tuple tes kt pt] (.Tuple mes k2 pt2) X.env = pure none := by rfl)
    (h1 : (assignEach [.Tuple tes kt pt] X.env).map (·.2) = [assign (.Tuple tes kt pt) X.env] := by rfl) : PS X (.Assign [.Tuple tes kt pt] (.Tuple mes k2 pt2) pos) (tS X.K G GI (.asgP ts es)) :=
  s_asgPN (Nat.le_trans hl (by decide)) (ps_asg (pe_tup ha) (pg_tup g.calm hg hn hst) hs hw h1)
theorem ks_app (i : Nat) {y : Str} {apos : Pos} (hv : PE X (.Name y pp) (L2.tVar i)) (he : PE X me (tD X.K G e))
    (hbase : attributeBase (.Name y pp) "append" X.env (eval (.Name y pp) X.env) = eval (.Name y pp) X.env := by rfl)
    (hfew : ((backTo p2 (starEach [me] X.env)).all (fun x => !x.1) && (backToKw p2 (keywordEach [] X.env)).all (fun x => x.1.isSome)
      && decide ([me].length + ([] : List Keyword).length + (if ([] : List Keyword).isEmpty then 0 else 1) < 30)) = true := by rfl)
    (hline : (apos.endLine == p2.line) = true := by rfl) (hs : starEach [me] X.env = (false, eval me X.env) :: starEach [] X.env := by rfl) (hplain : (backTo p2 (starEach [] X.env)).any (·.1) = false := by rfl)
    (hsw : swapsWith (.Call (.Attribute (.Name y pp) "append" apos) [me] [] p2) none pos.line X.env = pure false := by rfl) :
    PS X (.Expr (.Call (.Attribute (.Name y pp) "append" apos) [me] [] p2) pos) (tS X.K G GI (.app i e)) :=
  s_app (ps_expr (pe_bm PySem.F.plainAttrs_list PySem.F.slot_list_append PySem.F.type_list_append mt_append hv (a_cons he a_nil hs) hbase hfew hline hs hplain) hsw)
theorem ks_ext (i : Nat) {y : Str} {apos : Pos} (hv : PE X (.Name y pp) (L2.tVar i)) (he : PE X me (tD X.K G e))
    (hbase : attributeBase (.Name y pp) "extend" X.env (eval (.Name y pp) X.env) = eval (.Name y pp) X.env := by rfl)
    (hfew : ((backTo p2 (starEach [me] X.env)).all (fun x => !x.1) && (backToKw p2 (keywordEach [] X.env)).all (fun x => x.1.isSome)
      && decide ([me].length + ([] : List Keyword).length + (if ([] : List Keyword).isEmpty then 0 else 1) < 30)) = true := by rfl)
    (hline : (apos.endLine == p2.line) = true := by rfl) (hs : starEach [me] X.env = (false, eval me X.env) :: starEach [] X.env := by rfl) (hplain : (backTo p2 (starEach [] X.env)).any (·.1) = false := by rfl)
    (hsw : swapsWith (.Call (.Attribute (.Name y pp) "extend" apos) [me] [] p2) none pos.line X.env = pure false := by rfl) :
    PS X (.Expr (.Call (.Attribute (.Name y pp) "extend" apos) [me] [] p2) pos) (tS X.K G GI (.ext i e)) :=
  s_ext (ps_expr (pe_bm PySem.F.plainAttrs_list PySem.F.slot_list_extend PySem.F.type_list_extend mt_extend hv (a_cons he a_nil hs) hbase hfew hline hs hplain) hsw)
theorem ks_sset {i : Nat} {y : Str} {ps : Pos} (g : GoodX X) (hv : PE X (.Name y pp) (L2.tVar i)) (hk : PE X ma (tD X.K G a)) (he : PE X me (tD X.K G e))
    (ha : ∀ v, assign (.Subscript (.Name y pp) ma ps) X.env v = (do
      let ov ← holding [v] (eval (.Name y pp) X.env)
      let iv ← holding [v, ov] (eval ma X.env)
      standAt ps
      holding [v, ov, iv] (setItem ov iv v)
      release [v, ov, iv] []) := by intro _; rfl)
    (hs0 : swapsWith me (some (.Subscript (.Name y pp) ma ps)) pos.line X.env = pure false := by rfl)
    (hs : swapsWithSole [.Subscript (.Name y pp) ma ps] me pos.line X.env = pure false := by rfl) (hw : swappedStores [.Subscript (.Name y pp) ma ps] me X.env = pure none := by rfl)
    (h1 : (assignEach [.Subscript (.Name y pp) ma ps] X.env).map (·.2) = [assign (.Subscript (.Name y pp) ma ps) X.env] := by rfl) :
    PS X (.Assign [.Subscript (.Name y pp) ma ps] me pos) (tS X.K G GI (.sset i a e)) :=
  s_sset (ps_asg he (pg_sub hv hk set_list ha) hs hw h1) (ps_dput (by have := g.hu; omega) hv hk he hs0)
theorem ks_saug {i : Nat} {y : Str} {ps : Pos} {o : BO} {op : Operator} {ti : TIp} (g : GoodX X) (ho : P2ok X.K (opA o) ti) (hp : PIp X op ti) (hv : PE X (.Name y pp) (L2.tVar i)) (hk : PE X ma (tD X.K G a)) (he : PE X me (tD X.K G e))
    (ha : ∀ ov iv new, augStore ma ov iv new = (do holding [new, ov, iv] (setItem ov iv new); release [new, ov, iv] []; pure .next) := by intros; rfl) :
    PS X (.AugAssign (.Subscript (.Name y pp) ma ps) op me pos) (tS X.K G GI (.saug i a o e)) :=
  s_saug ho (ps_augS hv hk get_list he hp set_list ha) (ps_daug (by have := g.hu; omega) hv hk he hp ha)
theorem ks_saug_add {i : Nat} {y : Str} {ps : Pos} (g : GoodX X) (hv : PE X (.Name y pp) (L2.tVar i)) (hk : PE X ma (tD X.K G a)) (he : PE X me (tD X.K G e))
    (ha : ∀ ov iv new, augStore ma ov iv new = (do holding [new, ov, iv] (setItem ov iv new); release [new, ov, iv] []; pure .next) := by intros; rfl) :
    PS X (.AugAssign (.Subscript (.Name y pp) ma ps) .Add me pos) (tS X.K G GI (.saug i a .add e)) := ks_saug g ipadd_ok ip_add hv hk he ha
theorem ks_saug_sub {i : Nat} {y : Str} {ps : Pos} (g : GoodX X) (hv : PE X (.Name y pp) (L2.tVar i)) (hk : PE X ma (tD X.K G a)) (he : PE X me (tD X.K G e))
    (ha : ∀ ov iv new, augStore ma ov iv new = (do holding [new, ov, iv] (setItem ov iv new); release [new, ov, iv] []; pure .next) := by intros; rfl) :
    PS X (.AugAssign (.Subscript (.Name y pp) ma ps) .Sub me pos) (tS X.K G GI (.saug i a .sub e)) := ks_saug g ipsub_ok ip_sub hv hk he ha
theorem ks_aug_add (i : Nat) {x : Str} (g : GoodX X) (he : PE X me (tD X.K G e)) (hi : X.N[i]? = some x := by rfl) (hx : Loc X.env.scope x := by first | exact Or.inl rfl | exact Or.inr rfl) (hf : X.fn x = true ∨ X.env.scope.names.lookup x = some .local := by first | exact Or.inl rfl | exact Or.inr rfl) :
    PS X (.AugAssign (.Name x p2) .Add me pos) (tS X.K G GI (.aug i .add e)) := s_aug ipadd_ok (ps_aug g.nd hi hx he ip_add hf)
theorem ks_aug_sub (i : Nat) {x : Str} (g : GoodX X) (he : PE X me (tD X.K G e)) (hi : X.N[i]? = some x := by rfl) (hx : Loc X.env.scope x := by first | exact Or.inl rfl | exact Or.inr rfl) (hf : X.fn x = true ∨ X.env.scope.names.lookup x = some .local := by first | exact Or.inl rfl | exact Or.inr rfl) :
    PS X (.AugAssign (.Name x p2) .Sub me pos) (tS X.K G GI (.aug i .sub e)) := s_aug ipsub_ok (ps_aug g.nd hi hx he ip_sub hf)
theorem ks_aug_mod (i : Nat) {x : Str} (g : GoodX X) (he : PE X me (tD X.K G e)) (hi : X.N[i]? = some x := by rfl) (hx : Loc X.env.scope x := by first | exact Or.inl rfl | exact Or.inr rfl) (hf : X.fn x = true ∨ X.env.scope.names.lookup x = some .local := by first | exact Or.inl rfl | exact Or.inr rfl) :
    PS X (.AugAssign (.Name x p2) .Mod me pos) (tS X.K G GI (.aug i .mod e)) := s_aug ipmod_ok (ps_aug g.nd hi hx he ip_mod hf)
theorem ks_for {iter : Expr} {bs : List S} {kl : List Nat} (hp : PassesOwn (model X.prog X.w) X.A X.env X.xe) (g : GoodX X) (hi : PI X tg iter (tI true X.K G k es)) (hg : PG X tg (tG X.K t)) (hb : PSs X mbs (tSs X.K G GI bs))
    (hs : ∀ x, foldedSetIterable iter X.env x = pure x := by intro _; rfl) : PS X (.For tg iter mbs [] pos) (tS X.K G GI (.for_ t k es bs kl)) := s_for hp g.calm hi hg hb hs
end
/-! ### defs -/
section
variable {P : Program} {w : World} {K : PySem.W.Frag} {mg : Str → Option Value} {base : Heap} {defs : Nat → Option Fn}
abbrev cx (P : Program) (w : World) (K : PySem.W.Frag) (mg : Str → Option Value) (base : Heap) (N : List Str) (x : Str) (sc : Scope) (f : Addr) (cdv : Value) (A : Around) (outer : List PySem.Env) (s : Shared) (H : Hp) (E : XK) : Cx :=
  (cxOf CX0 P w K mg base N x sc f cdv A outer s H E).nox
/-- a def as it stands behind the top -/
structure HasFn (K : PySem.W.Frag) (mg : Str → Option Value) (x : Str) (st : Stmt) (ps : List Str) : Prop where
  ex : ∃ (fa : Addr) (fd : FuncData), FunD K x x (defArgs st) (defBody st) (defScope st) [] [] fa fd ∧ mg x = some (.ref fa) ∧ Binds K fd ps []
structure FnGood (P : Program) (w : World) (K : PySem.W.Frag) (mg : Str → Option Value) (base : Heap) (k : Nat) (x : Str) (ps : List Str) (sp : Sp) : Prop where
  ex : ∃ (fa : Addr) (fd : FuncData), PySem.W.keepIn K (.ref fa) = true ∧ mg x = some (.ref fa) ∧ Binds K fd ps [] ∧ FnOk P w K mg base CX0 k fa fd ps sp
theorem fn_zero {x : Str} {st : Stmt} {ps : List Str} {id n : Nat} (h : HasFn K mg x st ps) (hn : ps.length = n) : FnGood P w K mg base 0 x ps (spD K n (run defs 0 id)) := by
  obtain ⟨fa, fd, F, hm, hb⟩ := h.ex
  exact ⟨fa, fd, F.kp, hm, hb, ⟨fun vs H Q E h => by rw [hn]; exact h.1, fun A outer s H args us vs Q E _ _ _ _ h => by
    obtain ⟨_, F, ds, d, _, _, hd, _⟩ := h
    cases hd⟩⟩
theorem fn_zeroI {x : Str} {st : Stmt} {ps : List Str} {id n : Nat} (h : HasFn K mg x st ps) (hn : ps.length = n) : FnGood P w K mg base 0 x ps (spI K n (runI defs 0 id)) := by
  obtain ⟨fa, fd, F, hm, hb⟩ := h.ex
  exact ⟨fa, fd, F.kp, hm, hb, ⟨fun vs H Q E h => by rw [hn]; exact h.1, fun A outer s H args us vs Q E _ _ _ _ h => by
    obtain ⟨_, F, a, y, ds, ws, d, _, _, _, _, _, hd, _⟩ := h
    cases hd⟩⟩
theorem run_len {k id : Nat} {fn : Fn} (hd : defs id = some fn) (ds : List D) (d : D) (h : run defs k id ds = some d) : ds.length = fn.ps := by
  cases k with
  | zero => cases h
  | succ k =>
    have h : ((defs id).bind fun fn => if fn.io = false ∧ ds.length = fn.ps then retD (exs (run defs k) (runI defs k) (fn.start ds) fn.body) else none) = some d := h
    rw [hd] at h
    have h : (if fn.io = false ∧ ds.length = fn.ps then retD (exs (run defs k) (runI defs k) (fn.start ds) fn.body) else none) = some d := h
    exact Decidable.byContradiction fun n => by rw [if_neg fun z => n z.2] at h; cases h
theorem cal_of {X : Cx} {k id : Nat} {x : Str} {ps : List Str} {fn : Fn} (T : FnGood X.prog X.w X.K X.mg X.base k x ps (spD X.K fn.ps (run defs k id))) (hr : Room k X.A) (hd : defs id = some fn) (hps : ps.length = fn.ps) : Cal X (run defs k) x id fn.ps := by
  obtain ⟨fa, fd, hk, hm, hb, F⟩ := T.ex
  exact ⟨⟨k, fa, fd, ps, hps, F, hr, hm, hk, hb⟩, fun ds d => run_len hd ds d⟩
theorem start_ok {F H : Hp} {N : List Str} {ds : List D} {vs : List V} {fn : Fn} (l : FLe F H) (r : RepL K F ds vs) (hio : fn.io = false) (hv : vs.length = fn.ps) (hN : N.length = fn.ns) (hp : fn.ps ≤ fn.ns) : Ok K F H (L2.start N vs) (fn.start ds) := by
  have hl := r.length
  have e1 : fn.start ds = ds.map Cell.val ++ List.replicate (fn.ns - fn.ps) .unk := by
    unfold Fn.start
    rw [hio]
  rw [e1]
  refine ⟨l, ⟨?_, fun i d h => ?_, fun i d h => ?_, fun i j d e a _ h => ?_⟩⟩
  · unfold L2.start
    simp only [List.length_append, List.length_map, List.length_replicate]
    omega
  · by_cases hi : i < ds.length
    · rw [List.getElem?_append_left (by simpa using hi), List.getElem?_map, List.getElem?_eq_getElem hi] at h
      cases h
      obtain ⟨v, h1, h2⟩ := r.get (List.getElem?_eq_getElem hi)
      refine ⟨v, ?_, h2⟩
      unfold L2.start
      rw [List.getElem?_append_left (by simp; omega), List.getElem?_map, h1]; rfl
    · rw [List.getElem?_append_right (by simpa using hi)] at h
      rw [List.getElem?_replicate] at h
      split at h <;> cases h
  all_goals
    by_cases hi : i < ds.length
    · rw [List.getElem?_append_left (by simpa using hi), List.getElem?_map, List.getElem?_eq_getElem hi] at h
      cases h
    · rw [List.getElem?_append_right (by simpa using hi)] at h
      rw [List.getElem?_replicate] at h
      split at h <;> cases h
theorem fn_body {k id : Nat} {fn : Fn} {N : List Str} {vs : List V} {H : Hp} {Q : VK} {E : XK} (hd : defs id = some fn) (hio : fn.io = false) (hN : N.length = fn.ns) (hp : fn.ps ≤ fn.ns) (h : spD K fn.ps (run defs (k + 1) id) vs H Q E) :
    tSs K (run defs k) (runI defs k) fn.body { nx := fun _ H' => Q .non H', rt := Q } (L2.start N vs) H := by
  obtain ⟨hv, F, ds, d, l, r, hr, q⟩ := h
  have hr : ((defs id).bind fun fn => if fn.io = false ∧ ds.length = fn.ps then retD (exs (run defs k) (runI defs k) (fn.start ds) fn.body) else none) = some d := hr
  rw [hd] at hr
  have hr : (if fn.io = false ∧ ds.length = fn.ps then retD (exs (run defs k) (runI defs k) (fn.start ds) fn.body) else none) = some d := hr
  have hl := r.length
  rw [if_pos ⟨hio, by omega⟩] at hr
  have own : ∀ a, ¬ Own (L2.start N vs) (fn.start ds) a := fun a ⟨i, e, h1, h2⟩ => by
    have e1 : fn.start ds = ds.map Cell.val ++ List.replicate (fn.ns - fn.ps) .unk := by
      unfold Fn.start
      rw [hio]
    rw [e1] at h1
    by_cases hi : i < ds.length
    · rw [List.getElem?_append_left (by simpa using hi), List.getElem?_map, List.getElem?_eq_getElem hi] at h1
      cases h1
    · rw [List.getElem?_append_right (by simpa using hi)] at h1
      rw [List.getElem?_replicate] at h1
      split at h1 <;> cases h1
  have ext : ∀ {F' H'}, Reach F H (L2.start N vs) (fn.start ds) F' H' → Ext F H F' H' := fun re => ⟨re.f, fun a u e => re.h a u e (own a), fun a u e z => re.n a u e z (own a)⟩
  cases hx : exs (run defs k) (runI defs k) (fn.start ds) fn.body with
  | none => rw [hx] at hr; cases hr
  | some r' =>
    rw [hx] at hr
    obtain ⟨fl, env'⟩ := r'
    refine ⟨F, fn.start ds, (fl, env'), start_ok l r hio hv hN hp, hx, ?_⟩
    cases fl with
    | nx => cases hr; exact fun F' H' σ' st => q F' H' .non (ext st.re) st.re.le rfl
    | brk => cases hr
    | rt d' => cases hr; exact fun F' H' v re rd => q F' H' v (ext re) re.le rd
theorem good_of {k : Nat} {A : Around} {N : List Str} (hr : Room k A) (nd : N.Nodup) (hb : ∀ b ∈ blts, mg b = none) : Good true N A mg := ⟨rfl, nd, by have := hr.un; omega, hb⟩
theorem fn_ok {k id : Nat} {x : Str} {st : Stmt} {N ps : List Str} {fn : Fn} {fa : Addr} {fd : FuncData} (F : FunD K x x (defArgs st) (defBody st) (defScope st) [] [] fa fd) (S : FnScope N ps (defScope st)) (hd : defs id = some fn) (hio : fn.io = false) (hps : ps.length = fn.ps) (hN : N.length = fn.ns) (hp : fn.ps ≤ fn.ns)
    (hb : ∀ (f : Addr) (cdv : Value) (A : Around) (outer : List PySem.Env) (s : Shared) (H : Hp) (E : XK), Room k (A.deeper (envOfC x (defScope st) s.heap.objs.size f cdv)) →
      PSs (cx P w K mg base N x (defScope st) f cdv A outer s H E) (defBody st) (tSs K (run defs k) (runI defs k) fn.body)) :
    FnOk P w K mg base CX0 (k + 1) fa fd ps (spD K fn.ps (run defs (k + 1) id)) :=
  F.ok S (fun vs H Q E h => by rw [hps]; exact h.1) fun cdv A outer s H vs Q E hr h => ⟨_, (hb fa cdv A outer s H E hr).nox, fn_body hd hio hN hp h⟩
theorem fn_step {k id : Nat} {x : Str} {st : Stmt} {N ps : List Str} {fn : Fn} (h : HasFn K mg x st ps) (S : FnScope N ps (defScope st)) (hd : defs id = some fn) (hio : fn.io = false) (hps : ps.length = fn.ps) (hN : N.length = fn.ns) (hp : fn.ps ≤ fn.ns)
    (hb : ∀ (f : Addr) (cdv : Value) (A : Around) (outer : List PySem.Env) (s : Shared) (H : Hp) (E : XK), Room k (A.deeper (envOfC x (defScope st) s.heap.objs.size f cdv)) →
      PSs (cx P w K mg base N x (defScope st) f cdv A outer s H E) (defBody st) (tSs K (run defs k) (runI defs k) fn.body)) :
    FnGood P w K mg base (k + 1) x ps (spD K fn.ps (run defs (k + 1) id)) := by
  obtain ⟨fa, fd, F, hm, hbi⟩ := h.ex
  exact ⟨fa, fd, F.kp, hm, hbi, fn_ok F S hd hio hps hN hp hb⟩
end
end Rx
namespace Rx
open PySem PySem.Spec PyProof.Rows L2
section
variable {K : PySem.W.Frag} {defs : Nat → Option Fn}
theorem sp_law {k id : Nat} {ns : List Int} {H : Hp} {a : Addr} {E : XK} (h : run defs k id [.scr ns] = some (.bl true)) (hl : ns.length ≤ 63) (hS : SqL K H a (ns.map V.int)) : spD K 1 (run defs k id) [.ref a] H (fun v _ => v = .bl true) E :=
  ⟨rfl, H, [.scr ns], .bl true, fun _ _ e => .inl e, ⟨_, _, rfl, ⟨a, rfl, hS, Nat.le_trans hl (by decide)⟩, rfl⟩, h, fun F' H' v _ _ r => r⟩
theorem has_mk {d : He.DefD} {ps : List Str} {st : Stmt} {mg : Str → Option Value} {x : Str} {fd : FuncData} {fa : Addr} (F : FunD K x x (defArgs st) (defBody st) (defScope st) [] [] fa fd) (hm : mg x = some (.ref fa))
    (hb : ∀ (kV doc pm : Value) (an : Option Addr) (cdv ct : Value) (us : List Value), us.length = ps.length → bindArgs (PySem.W.fnOf x x (defArgs st) (defBody st) (defScope st) .none kV doc pm an cdv ct) ⟨us, []⟩ = pure (ps.zip us)) : HasFn K mg x st ps :=
  ⟨fa, fd, F, hm, F.bindsN hb⟩
end
end Rx
end

section
set_option Elab.async false
set_option linter.all false
set_option maxRecDepth 100000
set_option maxHeartbeats 1000000
set_option autoImplicit false
/-! RxKit3: further builtins. -/
namespace Rx
open PySem PySem.Spec PyProof.Rows L2
section
variable {X : Cx} {G : Gm} {K : PySem.W.Frag} {F H : Hp} {e a b : E} {me ma mb : Expr} {pos pp p2 pos2 apos : Pos} {pins : List (Addr × Obj)} {s : Shared} {σ : St}
/-! ### bit_length -/
theorem k_bitlen (g : GoodX X) (ha : PE X ma (tB X.K G a)) (hbase : attributeBase ma "bit_length" X.env (eval ma X.env) = eval ma X.env := by rfl) (hline : (apos.endLine == pos.line) = true := by rfl) :
    PE X (.Call (.Attribute ma "bit_length" apos) [] [] pos) (tD X.K G (.b1 .bitlen a)) := (pe_bits ha hbase hline).imp fun σ H Q ⟨F, env, d, ok, hd, k⟩ => by
  obtain ⟨x, hx, hd⟩ := Option.bind_eq_some_iff.mp (show (bo env a (ev G env a)).bind _ = some d from hd)
  cases x <;> simp only [opU] at hd <;> try cases hd
  rename_i i
  split at hd <;> cases hd
  refine runB ok hx fun F1 H1 v x1 o1 r1 => ⟨i, r1.int, ?_⟩
  have e : Builtin.Int.intBits i = bitlen i := by
    unfold Builtin.Int.intBits bitlen
    by_cases h : i = 0
    · subst h; rfl
    · rw [if_neg (by simpa using h), if_neg h]
  rw [e]
  exact k _ _ _ x1 o1.le rfl
/-! ### tuple(reversed(xs)) -/
theorem k_ofw_t_rev (g : GoodX X) (he : PE X ma (tB X.K G a)) (hg : Gl X "tuple" := by rfl) (hg2 : Gl X "reversed" := by rfl) (hs : starEach [ma] X.env = (false, eval ma X.env) :: starEach [] X.env := by rfl)
    (hs2 : starEach [.Call (.Name "reversed" p2) [ma] [] pos2] X.env = (false, eval (.Call (.Name "reversed" p2) [ma] [] pos2) X.env) :: starEach [] X.env := by rfl) :
    PE X (.Call (.Name "tuple" pp) [.Call (.Name "reversed" p2) [ma] [] pos2] [] pos) (tD X.K G (.ofw false .rev [a])) :=
  (RT.pe_tupRev g.calm hg (g.bl _ (by decide +kernel)) hg2 (g.bl _ (by decide +kernel)) he hs hs2).imp fun σ H Q ⟨F, env, d, ok, hd, k⟩ => by
    obtain ⟨vs, hv, hd⟩ := Option.bind_eq_some_iff.mp (show (evB G env [a]).bind _ = some d from hd)
    obtain ⟨xs, hw, hd⟩ := Option.bind_eq_some_iff.mp hd
    obtain ⟨x, hx, hv⟩ := Option.bind_eq_some_iff.mp (show (bo env a (ev G env a)).bind _ = some vs from hv)
    cases hv
    have key : ∃ ys, x = .lst ys ∧ xs = ys.reverse := by
      cases x <;> simp only [walkO] at hw <;> cases hw
      exact ⟨_, rfl, rfl⟩
    obtain ⟨ys, rfl, rfl⟩ := key
    have hd : (if ys.reverse.length ≤ line then some (D.tup ys.reverse) else none) = some d := hd
    have hl : ys.reverse.length ≤ line := Decidable.byContradiction fun n => by rw [if_neg n] at hd; cases hd
    rw [if_pos hl] at hd
    cases hd
    refine runB ok hx fun F1 H1 v x1 o1 r1 => ?_
    obtain ⟨p, vs, rfl, e1, r, z⟩ := r1.lst o1.le
    exact ⟨p, vs, rfl, .inl (.inl e1), fun q n => Want.tup (fun F' H' w x2 l2 r2 => k F' H' w (x1.trans x2) l2 r2) o1.le r.reverse hl n⟩
/-! ### sorted -/
theorem toPy_alike : ∀ {xs : List D}, alikeAll xs = true → PySem.W.AllAlike (D.toPyL xs) := by
  intro xs h d hd d' hd'
  rw [toPyL_eq] at hd hd'
  obtain ⟨x, hx, rfl⟩ := List.mem_map.mp hd
  obtain ⟨y, hy, rfl⟩ := List.mem_map.mp hd'
  exact alike_plain x y (alike_all h hx hy)
theorem toPy_sortable {xs : List D} (h : sortable xs = true) : PySem.W.Sortable (D.toPyL xs) := by
  unfold sortable at h
  rw [toPyL_eq]
  rcases Bool.or_eq_true_iff.mp h with h | h
  · right
    intro d hd
    obtain ⟨x, hx, rfl⟩ := List.mem_map.mp hd
    have := List.all_eq_true.mp h x hx
    match x, this with
    | .int i, _ => simp [D.toPy]
  · left
    intro d hd
    obtain ⟨x, hx, rfl⟩ := List.mem_map.mp hd
    have := List.all_eq_true.mp h x hx
    match x, this with
    | .tup (y :: ys), _ => exact ⟨D.toPy y, D.toPyL ys, by rw [D.toPy, D.toPyL]⟩
abbrev leP (p q : V × D) : Bool := !D.ltb q.2 p.2
def rSort (K : PySem.W.Frag) : List V → Hp → VK → Prop := fun vs H Q => ∃ (l : Addr) (bs : List (V × D)), vs = [.ref l] ∧ (H l = some (.lst (bs.map (·.1))) ∨ H l = some (.tup (bs.map (·.1)))) ∧ bs.length ≤ line ∧ DpAll K H (bs.map (·.1)) (D.toPyL (bs.map (·.2))) ∧ alikeAll (bs.map (·.2)) = true ∧ sortable (bs.map (·.2)) = true ∧ D.depthL (bs.map (·.2)) < 60 ∧
  ∀ p, H p = none → Q (.ref p) (upd H p (.lst ((bs.mergeSort leP).map (·.1))))
theorem each_of : ∀ {bs : List (V × D)} {its : List Value}, Vals (bs.map (·.1)) its → PySem.W.EachIs (fun v (p : V × D) => RelV p.1 v) its bs
  | [], _, r => by cases r; exact .nil
  | p :: bs, _, r => by
    cases r with
    | cons h t => exact .cons h (each_of t)
theorem vals_each : ∀ {bs : List (V × D)} {its : List Value}, PySem.W.EachIs (fun v (p : V × D) => RelV p.1 v) its bs → Vals (bs.map (·.1)) its
  | [], _, h => by cases h; exact .nil
  | p :: bs, _, h => by
    cases h with
    | cons h t => exact .cons h (vals_each t)
theorem each_reads {h : Heap} : ∀ {bs : List (V × D)} {its : List Value} {as : List Addr}, ReadsAll h its (D.toPyL (bs.map (·.2))) as → PySem.W.EachIs (fun v (p : V × D) => ∃ as, Reads h v (D.toPy p.2) as) its bs
  | [], _, _, r => by cases r; exact .nil
  | p :: bs, _, _, r => by
    rw [List.map_cons, D.toPyL] at r
    cases r with
    | cons h t => exact .cons ⟨_, h⟩ (each_reads t)
theorem sort_le {bs : List (V × D)} (hal : alikeAll (bs.map (·.2)) = true) : bs.mergeSort (PySem.W.dataLe false fun p : V × D => D.toPy p.2) = bs.mergeSort leP := by
  have h := List.map_mergeSort (r := PySem.W.dataLe false fun p : V × D => D.toPy p.2) (s := leP) (f := id) (l := bs) fun p hp q hq => by
    show (!PySem.W.dataLt (D.toPy q.2) (D.toPy p.2)) = !D.ltb q.2 p.2
    rw [toPy_lt q.2 p.2 (alike_all hal (List.mem_map.mpr ⟨q, hq, rfl⟩) (List.mem_map.mpr ⟨p, hp, rfl⟩))]
  simpa using h
/-- sorted(ts), ts a tuple -/
theorem sorted_dataT {prog : Program} {w : World} {A : Around} {E : Value → Shared → Prop} {s : Shared} {β : Type} {R : Value → β → Prop} {enc : β → PyData} {vs : List Value} {bs : List β} {l : Addr} {Q : Value → Shared → Prop} (hl : IsTup s.heap l vs.toArray) (e : PySem.W.EachIs R vs bs) (er : PySem.W.EachIs (fun v b => ∃ as, Reads s.heap v (enc b) as) vs bs) (hal : PySem.W.AllAlike (bs.map enc)) (hk : PySem.W.Sortable (bs.map enc)) (hL : bs.length ≤ sizeLine)
    (hu : ∀ b, b ∈ bs → A.units + 2 + (enc b).depth < cLine)
    (h : ∀ (h' : Heap) (out : List Value), (∀ b o, s.heap.get? b = some o → h'.get? b = some o) → out.length = bs.length → PySem.W.EachIs R out (bs.mergeSort (PySem.W.dataLe false enc)) →
      Q (.ref h'.objs.size) { s with heap := sortedHeap (h'.push (seqObj "list" vs.toArray 0)) h'.objs.size vs (List.toArray out) }) :
    wpAny (model prog w) A (call (.builtin "sorted") [.ref l]) Q E s := by
  obtain ⟨o, ho, hc, n, hd⟩ := hl
  refine Calls.call_function_entry kind_sorted plain_sorted entry_sorted (args_sorted1 _) ?_
  unfold Builtin.«sorted»
  refine wpAny_bind (m := checkCount "sorted" 1 1 _) (wpAny_pure ?_)
  refine wpAny_bind (wpAny_collect_seq (it := l) (.inr rfl) ho hc hd (fun h' hk' => ?_) (by have := e.length; simp only [List.size_toArray]; omega))
  refine wpAny_bind (wpAny_newList ?_ (by have := e.length; simp only; omega))
  have hob : (h'.push { cls := .type "list", data := .seq vs.toArray }).get? h'.objs.size = some (seqObj "list" vs.toArray 0) := Heap.get?_push_size _ rfl
  have kb : ∀ b o, s.heap.get? b = some o → (PySem.W.sortingHeap (h'.push { cls := .type "list", data := .seq vs.toArray }) h'.objs.size vs).get? b = some o := fun b o q =>
    PySem.W.sortingHeap_old (Nat.ne_of_lt (Heap.lt_size (hk' b o q))) (Heap.get?_push_of_some _ (hk' b o q))
  have er' : PySem.W.EachIs (fun v b => ∃ as, Reads (PySem.W.sortingHeap (h'.push { cls := .type "list", data := .seq vs.toArray }) h'.objs.size vs) v (enc b) as) vs bs := er.mono fun _ _ ⟨as, r⟩ => ⟨as, PyProof.Rows.Reads.keeps kb r⟩
  refine wpAny_bind (wpAny_holding (wpAny_call_entry slot_list_sort ⟨_, hob, rfl⟩ entry_list_sort
    (PySem.W.list_sort_vals (s := { s with heap := h'.push { cls := .type "list", data := .seq vs.toArray } }) (κ := PySem.W.dataKind (PySem.W.sortingHeap (h'.push { cls := .type "list", data := .seq vs.toArray }) h'.objs.size vs) (bs.map enc)) hob
      (PySem.W.SortsAt.data (s := { s with heap := PySem.W.sortingHeap (h'.push { cls := .type "list", data := .seq vs.toArray }) h'.objs.size vs }) (PySem.W.each_map (R := fun v d => ∃ as, Reads (PySem.W.sortingHeap (h'.push { cls := .type "list", data := .seq vs.toArray }) h'.objs.size vs) v d as) enc er') hal hk (PySem.W.bound_map (A := A.in1.in1) hu)) (by rw [e.length]; exact hL)
      ⟨.none, rfl, wpAny_pure ⟨_, rfl, ?_⟩⟩) (args_list_sort _)))
  exact h h' _ hk' (by rw [PySem.W.sortVals_length false rfl]; exact e.length) (PySem.W.sortVals_data false e er' hal)
theorem call_sortedA (hc : X.calm = true) (hu : X.A.units + 65 < cLine) : CallR X (.builtin "sorted") (rSort X.K) := by
  intro pins s σ H xs us Q I r ⟨l, bs, e, hl, hz, dp, hal, hso, hdep, q⟩
  subst e
  obtain ⟨u, rfl, ru⟩ := vals1 r
  cases ru
  have hm : (D.toPyL (bs.map (·.2))) = bs.map fun p => D.toPy p.2 := by rw [toPyL_eq, List.map_map]; rfl
  have hdp : ∀ p ∈ bs, X.A.in1.in1.units + (D.toPy p.2).depth < cLine := fun p hp => by
    have h1 := toPy_depth p.2
    have h2 := depth_at (List.mem_map.mpr ⟨p, hp, rfl⟩ : p.2 ∈ bs.map (·.2))
    show X.A.units + 2 + _ < _
    omega
  rcases hl with hl | hl
  · obtain ⟨its, rv, p, hz'⟩ := I.list (SqL.of hl)
    obtain ⟨as, ra⟩ := Dp.readsAll I _ _ _ dp rv
    refine PySem.W.sorted_data (bs := bs) (enc := fun p => D.toPy p.2) (R := fun v (p : V × D) => RelV p.1 v) p.isList (each_of rv) (each_reads ra) (by rw [← hm]; exact toPy_alike hal) (by rw [← hm]; exact toPy_sortable hso) (by rw [line_eq]; exact hz) hdp fun out ho eo => ?_
    rw [sort_le hal] at eo
    obtain ⟨c, hc'⟩ := PyProof.Rows.sortedAll_at s.heap its out.toArray
    refine ⟨.ref (s.heap.objs.size + 1), _, I.laid (t' := s.toks) (o := .lst ((bs.mergeSort leP).map (·.1))) (fun b ob q => PyProof.Rows.sortedAll_old q) (Nat.le_succ _) ⟨?_, out, c, vals_each eo, hc'⟩, rfl, q _ (I.hok.fresh (Nat.le_succ _))⟩
    rw [List.length_map, List.length_mergeSort, line_eq]; exact hz
  · obtain ⟨its, rv, p, hz'⟩ := I.tuple (SqT.of hl)
    obtain ⟨as, ra⟩ := Dp.readsAll I _ _ _ dp rv
    refine sorted_dataT (bs := bs) (enc := fun p => D.toPy p.2) (R := fun v (p : V × D) => RelV p.1 v) p (each_of rv) (each_reads ra) (by rw [← hm]; exact toPy_alike hal) (by rw [← hm]; exact toPy_sortable hso) (by rw [line_eq]; exact hz) hdp fun h' out hk ho eo => ?_
    rw [sort_le hal] at eo
    obtain ⟨c, hc'⟩ := PyProof.Rows.sortedHeap_at (vs := its) (out := out.toArray) (Heap.get?_push_size h' (o := seqObj "list" its.toArray 0) rfl)
    have I' : Inv X pins σ H { s with heap := h', toks := s.toks } := I.kept hk
    refine ⟨.ref h'.objs.size, _, I'.laid (t' := s.toks) (o := .lst ((bs.mergeSort leP).map (·.1))) (fun b ob q => (PyProof.Rows.sortedHeap_old (Nat.ne_of_lt (Heap.lt_size q)) (Heap.lt_size (Heap.get?_push_of_some _ q))).trans (Heap.get?_push_of_some _ q)) (Nat.le_refl _) ⟨?_, out, c, vals_each eo, hc'⟩, rfl, q _ (I'.hok.fresh (Nat.le_refl _))⟩
    rw [List.length_map, List.length_mergeSort, line_eq]; exact hz
theorem repL_zip : ∀ {ds : List D} {vs : List V}, RepL K F ds vs → (vs.zip ds).map (·.1) = vs ∧ (vs.zip ds).map (·.2) = ds ∧ ∀ p ∈ vs.zip ds, Rep K F p.2 p.1
  | [], _, h => by cases h; exact ⟨rfl, rfl, by simp⟩
  | d :: ds, _, h => by
    obtain ⟨v, r, rfl, h1, h2⟩ := h
    obtain ⟨q1, q2, q3⟩ := repL_zip h2
    refine ⟨by simp [q1], by simp [q2], fun p hp => ?_⟩
    rw [List.zip_cons_cons] at hp
    rcases List.mem_cons.mp hp with rfl | hp
    · exact h1
    · exact q3 p hp
theorem repL_of : ∀ {bs : List (V × D)}, (∀ p ∈ bs, Rep K F p.2 p.1) → RepL K F (bs.map (·.2)) (bs.map (·.1))
  | [], _ => rfl
  | p :: bs, h => ⟨_, _, rfl, h p (List.mem_cons_self ..), repL_of fun q hq => h q (List.mem_cons_of_mem _ hq)⟩
theorem sortD_of (bs : List (V × D)) : (bs.mergeSort leP).map (·.2) = sortD (bs.map (·.2)) :=
  List.map_mergeSort (r := leP) (s := fun a b => !D.ltb b a) (f := (·.2)) fun _ _ _ _ => rfl
theorem kn_sorted (g : GoodX X) (ha : PE X ma (tB X.K G a)) (hg : Gl X "sorted" := by rfl) (hs : starEach [ma] X.env = [(false, eval ma X.env)] := by rfl) : PE X (.Call (.Name "sorted" pp) [ma] [] pos) (tN X.K G (.b1 .sorted a)) :=
  (pe_callB (call_sortedA g.calm (by have := g.hu; omega)) hg (g.bl _ (by decide +kernel)) (by decide +kernel) (b_one ha hs) (by decide) (by decide) hs rfl).imp fun σ H Q ⟨F, env, d, ok, hd, k⟩ => by
    obtain ⟨x, hx, hz⟩ := Option.bind_eq_some_iff.mp (show (bo env a (ev G env a)).bind _ = some d from hd)
    refine runLB ok (show evB G env [a] = some [x] by show (bo env a (ev G env a)).bind _ = _; rw [hx]; rfl) fun F1 H1 vs x1 o1 r1 => ?_
    obtain ⟨v, r', rfl, r1, e1⟩ := r1
    cases e1
    obtain ⟨xs, hsx, hz⟩ := Option.bind_eq_some_iff.mp (show x.seq?.bind (fun xs => if alikeAll xs && sortable xs && D.plainL xs && decide (D.depthL xs < 60) then some (D.lst (sortD xs)) else none) = some d from hz)
    have hz : (if (alikeAll xs && sortable xs && D.plainL xs && decide (D.depthL xs < 60)) = true then some (D.lst (sortD xs)) else none) = some d := hz
    have hh : (alikeAll xs && sortable xs && D.plainL xs && decide (D.depthL xs < 60)) = true := Decidable.byContradiction fun n => by rw [if_neg n] at hz; cases hz
    rw [if_pos hh] at hz
    cases hz
    simp only [Bool.and_eq_true, decide_eq_true_eq] at hh
    obtain ⟨vs, ⟨l, rfl, e⟩, r, z⟩ := seqV_of hsx o1.le r1
    obtain ⟨q1, q2, q3⟩ := repL_zip r
    refine ⟨l, vs.zip xs, rfl, by rw [q1]; exact e, ?_, ?_, by rw [q2]; exact hh.1.1.1, by rw [q2]; exact hh.1.1.2, by rw [q2]; exact hh.2, fun p n => ?_⟩
    · rw [List.length_zip, r.length]; omega
    · rw [q1, q2]; exact repL_dp o1.le _ hh.1.2 r
    · have rr : RepL X.K F1 (sortD xs) (((vs.zip xs).mergeSort leP).map (·.1)) := by
        have := repL_of (K := X.K) (F := F1) (bs := (vs.zip xs).mergeSort leP) fun p hp => q3 p (List.mem_mergeSort.mp hp)
        rw [sortD_of, q2] at this
        exact this
      exact WantN.lst (wantN_ext x1 k) o1.le rr (by unfold sortD; rw [List.length_mergeSort]; exact z) n
theorem k_sorted (g : GoodX X) (ha : PE X ma (tB X.K G a)) (hg : Gl X "sorted" := by rfl) (hs : starEach [ma] X.env = [(false, eval ma X.env)] := by rfl) : PE X (.Call (.Name "sorted" pp) [ma] [] pos) (tD X.K G (.b1 .sorted a)) := (kn_sorted g ha hg hs).frz
end
end Rx
end

section
set_option Elab.async false
set_option linter.all false
set_option maxRecDepth 100000
set_option maxHeartbeats 1000000
set_option autoImplicit false
/-! RxKit4: slices with a step, ranges as lists, ranges with a step, calls that change a list. -/
namespace Rx
open PySem PySem.Spec PyProof.Rows L2
/-! ### xs[::g] -/
/-- every g-th one -/
def evN {α : Type} (g : Nat) : Nat → List α → List α
  | _, [] => []
  | 0, x :: xs => x :: evN g (g - 1) xs
  | k + 1, _ :: xs => evN g k xs
theorem everyN_eq (g : Nat) : ∀ (k : Nat) (xs : List D), everyN g k xs = evN g k xs
  | _, [] => by cases ‹Nat› <;> rfl
  | 0, x :: xs => by rw [everyN, evN, everyN_eq g (g - 1) xs]
  | k + 1, _ :: xs => by rw [everyN, evN, everyN_eq g k xs]
theorem evN_drop {α : Type} (g : Nat) : ∀ (k : Nat) (xs : List α), evN g k xs = evN g 0 (xs.drop k)
  | 0, xs => by rw [List.drop_zero]
  | k + 1, [] => by simp [evN]
  | k + 1, x :: xs => by rw [evN, List.drop_succ_cons]; exact evN_drop g k xs
theorem evN_len {α : Type} (g : Nat) : ∀ (k : Nat) (xs : List α), (evN g k xs).length ≤ xs.length
  | _, [] => by cases ‹Nat› <;> simp [evN]
  | 0, x :: xs => by rw [evN]; simp; exact evN_len g (g - 1) xs
  | k + 1, _ :: xs => by rw [evN]; have := evN_len g k xs; simp; omega
theorem evN_vals (g : Nat) : ∀ (k : Nat) (xs : List V) (ys : List Value), Vals xs ys → Vals (evN g k xs) (evN g k ys)
  | k, [], _, h => by cases h; cases k <;> exact .nil
  | 0, x :: xs, _, h => by cases h with | cons h t => exact .cons h (evN_vals g (g - 1) xs _ t)
  | k + 1, _ :: xs, _, h => by cases h with | cons h t => exact evN_vals g k xs _ t
theorem evN_rep {K : PySem.W.Frag} {F : Hp} (g : Nat) : ∀ (k : Nat) {xs : List D} {vs : List V}, RepL K F xs vs → RepL K F (evN g k xs) (evN g k vs)
  | k, [], _, h => by cases h; cases k <;> exact rfl
  | 0, x :: xs, _, h => by
    obtain ⟨v, r, rfl, h1, h2⟩ := h
    exact ⟨v, _, rfl, h1, evN_rep g (g - 1) h2⟩
  | k + 1, _ :: xs, _, h => by
    obtain ⟨v, r, rfl, h1, h2⟩ := h
    exact evN_rep g k h2
theorem fm_congr {α β : Type} {f g : α → Option β} : ∀ {l : List α}, (∀ x ∈ l, f x = g x) → l.filterMap f = l.filterMap g
  | [], _ => rfl
  | a :: l, h => by rw [List.filterMap_cons, List.filterMap_cons, h a (List.mem_cons_self ..), fm_congr fun x hx => h x (List.mem_cons_of_mem _ hx)]
theorem evN_pick {α : Type} (g : Nat) (hg : 0 < g) (n : Nat) : ∀ (xs : List α), xs.length ≤ n → evN g 0 xs = (List.range ((xs.length + g - 1) / g)).filterMap fun k => xs[k * g]? := by
  induction n with
  | zero =>
    intro xs h
    obtain rfl : xs = [] := List.length_eq_zero_iff.mp (by omega)
    have : (0 + g - 1) / g = 0 := Nat.div_eq_of_lt (by omega)
    simp [evN, this]
  | succ n ih =>
    intro xs h
    cases xs with
    | nil =>
      have : (0 + g - 1) / g = 0 := Nat.div_eq_of_lt (by omega)
      simp [evN, this]
    | cons x xs =>
      have hl : (xs.drop (g - 1)).length = xs.length - (g - 1) := List.length_drop
      have hlen : ((x :: xs).length + g - 1) / g = ((xs.drop (g - 1)).length + g - 1) / g + 1 := by
        rw [hl, List.length_cons]
        by_cases hc : g - 1 ≤ xs.length
        · rw [show xs.length + 1 + g - 1 = (xs.length - (g - 1) + g - 1) + g by omega, Nat.add_div_right _ hg]
        · rw [show xs.length - (g - 1) + g - 1 = g - 1 by omega, Nat.div_eq_of_lt (show g - 1 < g by omega), show xs.length + 1 + g - 1 = xs.length + g by omega, Nat.add_div_right _ hg, Nat.div_eq_of_lt (by omega)]
      rw [evN, evN_drop, ih (xs.drop (g - 1)) (by rw [hl]; simp at h; omega), hlen, List.range_succ_eq_map, List.filterMap_cons]
      simp only [Nat.zero_mul, List.getElem?_cons_zero]
      rw [List.filterMap_map]
      congr 1
      refine fm_congr fun k _ => ?_
      show (xs.drop (g - 1))[k * g]? = (x :: xs)[(k + 1) * g]?
      have e : (k + 1) * g = (g - 1 + k * g) + 1 := by rw [Nat.succ_mul]; omega
      rw [e, List.getElem?_cons_succ, List.getElem?_drop]
theorem pick_step {g : Nat} (hg : 0 < g) (its : List Value) : slicePick its.toArray none none (some (g : Int)) = (evN g 0 its).toArray := by
  unfold slicePick
  have hb : sliceBounds none none (some (g : Int)) its.toArray.size = (0, (its.toArray.size : Int), (g : Int)) := by
    simp only [sliceBounds, Option.getD_some]
    rw [if_pos (by omega), if_pos (by omega)]
  rw [hb]
  congr 1
  rw [evN_pick g hg its.length its (Nat.le_refl _)]
  unfold sliceRange
  have hg' : ((g : Int) > 0) := by omega
  simp only [hg', if_true, List.size_toArray]
  by_cases h : (0 : Int) < (its.length : Int)
  · rw [if_pos h]
    have e : (((its.length : Int) - 0 + (g : Int) - 1) / (g : Int)).toNat = (its.length + g - 1) / g := by
      rw [show (its.length : Int) - 0 + (g : Int) - 1 = ((its.length + g - 1 : Nat) : Int) by omega, ← Int.natCast_ediv, Int.toNat_natCast]
    rw [e, List.filterMap_map]
    refine fm_congr fun k _ => ?_
    show its.toArray[((0 : Int) + (g : Int) * (k : Int)).toNat]? = its[k * g]?
    rw [show ((0 : Int) + (g : Int) * (k : Int)).toNat = k * g by rw [Int.zero_add, ← Int.natCast_mul, Int.toNat_natCast, Nat.mul_comm]]
    simp
  · rw [if_neg h]
    have : its.length = 0 := by omega
    rw [this]
    have : (0 + g - 1) / g = 0 := Nat.div_eq_of_lt (by omega)
    rw [this]; rfl
/-- xs[::i] of a list, i above 0 -/
def tStpL (K : PySem.W.Frag) (te ts : TE) : TE := fun σ H Q => te σ H fun x H1 => tPart ts σ H1 fun o H2 => ∃ a xs i, x = .ref a ∧ o = some i ∧ 0 < i ∧ SqL K H2 a xs ∧ ∀ p, H2 p = none → Q (.ref p) (upd H2 p (.lst (evN i.toNat 0 xs)))
section
variable {X : Cx} {G GI : Gm} {K : PySem.W.Frag} {F H : Hp} {e a b c : E} {me ma mb mc tg : Expr} {pos pp p2 pos2 : Pos} {fr : Bool}
theorem pe_stpL {te ts : TE} (he : PE X ma te) (hb : PE X mb ts) : PE X (.Subscript ma (.Slice none none (some mb) p2) pos) (tStpL X.K te ts) := by
  refine ⟨fun pins s σ H Q I h => ?_⟩
  refine Subscript_ (thn (he.run pins s σ H _ I h) fun v s1 ⟨x, H1, I1, r1, q1⟩ => ?_)
  have hst : PO X (some mb) (tPart ts) := po_some hb
  refine wpAny_Slice (thn (po_none.run pins s1 σ H1 (fun o H2 => o = none ∧ H2 = H1) I1 ⟨rfl, rfl⟩) fun vl s2 ⟨l, H2, I2, pl, el, e2⟩ => ?_)
  subst el e2
  refine thn (po_none.run pins s2 σ H2 (fun o H3 => o = none ∧ H3 = H2) I2 ⟨rfl, rfl⟩) fun vu s3 ⟨u, H3, I3, pu, eu, e3⟩ => ?_
  subst eu e3
  refine thn (hst.run pins s3 σ H3 _ I3 q1) fun vs s4 ⟨o, H4, I4, ps, a, xs, i, ex, eo, hi, hx, q⟩ => ?_
  subst ex eo
  cases r1
  have I5 : Inv X pins σ H4 { s4 with heap := s4.heap.push { cls := .type "slice", data := .fields #[vl, vu, vs] } } := I4.kept (t' := s4.toks) fun b ob q => Heap.get?_push_of_some _ q
  obtain ⟨its, r, ht, hz⟩ := I5.list hx
  have hlen := r.length
  show wpAny (model X.prog X.w) X.A (subscriptTail ma (.Slice none none (some mb) p2) (.ref a) (.ref s4.heap.objs.size)) (EP X pins σ Q) X.xe { s4 with heap := s4.heap.push { cls := .type "slice", data := .fields #[vl, vu, vs] } }
  refine tail_any (ops := [.ref a, .ref s4.heap.objs.size]) ht.isList.typeIs (PySem.slot_list_getitem.lookup) ?_ (by with_unfolding_all rfl)
  refine wpAny_getItem_list_slice ht.isList (Heap.IsSliceOf.new _ vl vu vs) pl pu ps (by simp; omega) ?_ (by rw [List.size_toArray]; omega)
  have e1 : ((i.toNat : Nat) : Int) = i := Int.toNat_of_nonneg (by omega)
  rw [← e1, pick_step (by omega)]
  refine ⟨.ref _, _, I5.laid (t' := s4.toks) (o := .lst (evN i.toNat 0 xs)) (fun b ob q => Heap.get?_push_of_some _ q) (Nat.le_refl _) ?_, rfl, q _ (I5.hok.fresh (Nat.le_refl _))⟩
  exact ⟨Nat.le_trans (evN_len _ _ _) hz, _, 0, evN_vals _ 0 _ _ r, Heap.get?_push_size _ rfl⟩
theorem k_stp (g : GoodX X) (ha : PE X ma (tB X.K G a)) (hb : PE X mb (tD X.K G b)) : PE X (.Subscript ma (.Slice none none (some mb) p2) pos) (tD X.K G (.stp a b)) :=
  (pe_stpL ha hb).imp fun σ H Q ⟨F, env, z, ok, hd, k⟩ => by
    obtain ⟨x, hx, hd⟩ := Option.bind_eq_some_iff.mp (show (bo env a (ev G env a)).bind _ = some z from hd)
    obtain ⟨y, hy, hd⟩ := Option.bind_eq_some_iff.mp hd
    have key : ∃ xs i, x = .lst xs ∧ y = .int i ∧ 0 < i ∧ z = .lst (evN i.toNat 0 xs) := by
      cases x <;> cases y <;> (try (simp only [opStp] at hd; done)) <;> (try (cases hd; done))
      rename_i xs _ i
      have hd : (if 0 < i ∧ i < 2 ^ 62 then some (D.lst (everyN i.toNat 0 xs)) else none) = some z := hd
      have hc : 0 < i ∧ i < 2 ^ 62 := Decidable.byContradiction fun n => by rw [if_neg n] at hd; cases hd
      rw [if_pos hc] at hd
      cases hd
      exact ⟨_, _, rfl, rfl, hc.1, by rw [everyN_eq]⟩
    obtain ⟨xs, i, rfl, rfl, hi, rfl⟩ := key
    refine runB ok hx fun F1 H1 v x1 o1 r1 => runD o1 hy fun F2 H2 u x2 o2 r2 => ?_
    obtain ⟨l, vs, rfl, e, r, zl⟩ := (r1.ext x2).lst o2.le
    exact ⟨i, r2, l, vs, i, rfl, rfl, hi, .of e, fun p n => Want.lst (fun F' H' w x3 l2 r3 => k F' H' w ((x1.trans x2).trans x3) l2 r3) o2.le (evN_rep _ 0 r) (Nat.le_trans (evN_len _ _ _) zl) n⟩
/-! ### range(a, b, c) -/
theorem rgC_of {i j c : Int} (hi : -(2 ^ 61) ≤ i) (hi' : i < 2 ^ 61) (hj : -(2 ^ 61) ≤ j) (hj' : j < 2 ^ 61) (hc : c ≠ 0) (hc' : c.natAbs < 2 ^ 30) : RgC i j c (rsize i j c) := by
  have hs : Builtin.Range.rangeSize i j c = rsize i j c := by
    unfold Builtin.Range.rangeSize rsize
    by_cases hp : c > 0
    · rw [if_pos hp, if_pos (show 0 < c from hp)]
      obtain ⟨d, rfl⟩ : ∃ d : Nat, c = d := ⟨c.toNat, by omega⟩
      by_cases hl : i < j
      · rw [if_pos hl]
        obtain ⟨m, hm⟩ : ∃ m : Nat, j - i = m + 1 := ⟨(j - i - 1).toNat, by omega⟩
        rw [show j - i - 1 = (m : Int) by omega, show j - i + (d : Int) - 1 = ((m + d : Nat) : Int) by omega, Int.toNat_natCast, Int.toNat_natCast]
        rw [Nat.add_div_right _ (by omega), ← Int.natCast_ediv]; simp
      · rw [if_neg hl, Nat.div_eq_of_lt (by omega)]; rfl
    · rw [if_neg hp, if_neg (show ¬ 0 < c from hp)]
      obtain ⟨d, rfl⟩ : ∃ d : Nat, c = -(d : Int) := ⟨(-c).toNat, by omega⟩
      by_cases hl : i > j
      · rw [if_pos hl]
        obtain ⟨m, hm⟩ : ∃ m : Nat, i - j = m + 1 := ⟨(i - j - 1).toNat, by omega⟩
        rw [show i - j - 1 = (m : Int) by omega, show i - j - -(d : Int) - 1 = ((m + d : Nat) : Int) by omega, show - -(d : Int) = (d : Int) by omega, Int.toNat_natCast, Int.toNat_natCast]
        rw [Nat.add_div_right _ (by omega), ← Int.natCast_ediv]; simp
      · rw [if_neg hl, Nat.div_eq_of_lt (by omega)]; rfl
  have hb : rsize i j c ≤ 2 ^ 62 + 2 ^ 30 := by
    unfold rsize
    split
    · exact Nat.le_trans (Nat.div_le_self _ _) (by omega)
    · exact Nat.le_trans (Nat.div_le_self _ _) (by omega)
  refine ⟨hc, hc', ?_, hs⟩
  unfold Builtin.Range.small
  rw [hs]
  simp only [Builtin.Range.rangeFitsLong, Bool.and_eq_true, Bool.or_eq_true, decide_eq_true_eq, beq_iff_eq]
  refine ⟨⟨⟨⟨?_, ?_⟩, ?_⟩, ?_⟩, .inr ?_⟩
  · constructor <;> omega
  · constructor <;> omega
  · constructor <;> omega
  · constructor <;> omega
  · split <;> simp only [Bool.and_eq_true, decide_eq_true_eq] <;> constructor <;> omega
theorem kw_r3 (g : GoodX X) (ha : PA X [ma, mb, mc] (tM fr X.K G [a, b, c])) (hg : Gl X "range" := by rfl) (hs : starEach [ma, mb, mc] X.env = (false, eval ma X.env) :: starEach [mb, mc] X.env := by rfl) (hpl : (backTo pos (starEach [mb, mc] X.env)).any (·.1) = false := by rfl) :
    PI X tg (.Call (.Name "range" pp) [ma, mb, mc] [] pos) (tI fr X.K G .r3 [a, b, c]) :=
  (pi_range3 hg (g.bl _ (by decide +kernel)) ha hs hpl).imp fun σ H R ⟨F, env, vs, xs, o, hv, hw, k⟩ => by
    refine runM o hv fun F1 H1 ws x1 o1 st r1 => ?_
    rcases vs with _ | ⟨d, _ | ⟨d2, _ | ⟨d3, _ | ⟨d4, r⟩⟩⟩⟩ <;> (try simp only [walk] at hw) <;> try cases hw
    all_goals (cases d <;> (try simp only [walk] at hw) <;> try cases hw)
    all_goals (cases d2 <;> (try simp only [walk] at hw) <;> try cases hw)
    all_goals (cases d3 <;> (try simp only [walk] at hw) <;> try cases hw)
    split at hw <;> cases hw
    rename_i hb
    obtain ⟨v, r', rfl, r1, u, r'', rfl, r2, t, r3, rfl, q3, e⟩ := r1
    cases e
    exact ⟨_, _, _, _, by rw [r1.int, r2.int, q3.int], rgC_of hb.1 hb.2.1 hb.2.2.1 hb.2.2.2.1 hb.2.2.2.2.1 hb.2.2.2.2.2, k _ _ _ x1 o1.le (walk_rngC fun _ _ => SM.le)⟩
/-! ### list(range(..)), tuple(range(..)) -/
def rgCV (i c : Int) (n : Nat) : List V := (List.range n).map fun (k : Nat) => V.int (i + k * c)
theorem rgCV_len {i c : Int} {n : Nat} : (rgCV i c n).length = n := by simp [rgCV]
theorem vals_rgC {a c : Int} {n : Nat} {acc : Array Value} (h : ItemsOf (fun i v => ∃ t, v = .int (a + i * c) t) acc n) : Vals (rgCV a c n) acc.toList := by
  have e : acc.toList.length = n := by rw [Array.length_toList]; exact h.1
  unfold rgCV
  rw [← e]
  refine vals_of_get acc.toList _ fun j u hj => ?_
  obtain ⟨t, rfl⟩ := h.2 j u (by rw [← hj, Array.getElem?_toList])
  exact ⟨t, rfl⟩
theorem rep_rgC {i c : Int} : ∀ {ks : List Nat}, RepL K F (ks.map fun (k : Nat) => .int (i + k * c)) (ks.map fun (k : Nat) => V.int (i + k * c))
  | [] => rfl
  | k :: ks => ⟨_, _, rfl, rfl, rep_rgC⟩
def PR3 (X : Cx) (e : Expr) (t : St → Hp → (Int → Int → Int → Hp → Prop) → Prop) : Prop :=
  ∀ (pins : List (Addr × Obj)) (s : Shared) (σ : St) (H : Hp) (Q : Int → Int → Int → Hp → Prop), Inv X pins σ H s → t σ H Q →
    wpAny (model X.prog X.w) X.A (eval e X.env) (fun x s' => ∃ r a b c t u v H', x = .ref r ∧ IsRange s'.heap r a b c t u v ∧ Inv X pins σ H' s' ∧ Q a b c H') X.xe s
theorem pr3_1 {ta : TA} (hg : Gl X "range") (hm : X.mg "range" = none) (ha : PA X [ma] ta) (hs : starEach [ma] X.env = [(false, eval ma X.env)]) : PR3 X (.Call (.Name "range" pp) [ma] [] pos) (fun σ H Q => ta σ H fun vs H1 => ∃ n, vs = [.int n] ∧ Q 0 n 1 H1) := by
  intro pins s σ H Q I h
  refine Call_ (ld_blt I hg hm boot_range (PyProof.Rows.callWith_type1 (thn (ha.run pos pins s σ H _ I h) fun us s1 ⟨vs, H1, I1, r1, q1⟩ => ?_) hs rfl))
  obtain ⟨n, e, q⟩ := q1
  subst e
  cases r1 with
  | cons r rr =>
    cases rr
    obtain ⟨t, rfl⟩ := r
    exact call_range_1 ⟨_, 0, n, 1, _, _, _, H1, rfl, IsRange.new _ _ _ _ _ _ _, I1.kept fun b u e => Heap.get?_push_of_some _ e, q⟩
theorem pr3_2 {ta : TA} (hg : Gl X "range") (hm : X.mg "range" = none) (ha : PA X [ma, mb] ta) (hs : starEach [ma, mb] X.env = [(false, eval ma X.env), (false, eval mb X.env)]) (hs2 : starEach [mb] X.env = [(false, eval mb X.env)]) : PR3 X (.Call (.Name "range" pp) [ma, mb] [] pos) (fun σ H Q => ta σ H fun vs H1 => ∃ i j, vs = [.int i, .int j] ∧ Q i j 1 H1) := by
  intro pins s σ H Q I h
  refine Call_ (ld_blt I hg hm boot_range (PyProof.Rows.callWith_type1 (thn (ha.run pos pins s σ H _ I h) fun us s1 ⟨vs, H1, I1, r1, q1⟩ => ?_) (by rw [hs, hs2]) (by rw [hs2]; rfl)))
  obtain ⟨i, j, e, q⟩ := q1
  subst e
  cases r1 with
  | cons r rr =>
    cases rr with
    | cons r' rr =>
      cases rr
      obtain ⟨t, rfl⟩ := r
      obtain ⟨t', rfl⟩ := r'
      exact call_range_2 ⟨_, i, j, 1, _, _, _, H1, rfl, IsRange.new _ _ _ _ _ _ _, I1.kept fun b u e => Heap.get?_push_of_some _ e, q⟩
theorem pr3_3 {ta : TA} (hg : Gl X "range") (hm : X.mg "range" = none) (ha : PA X [ma, mb, mc] ta) (hs : starEach [ma, mb, mc] X.env = (false, eval ma X.env) :: starEach [mb, mc] X.env) (hpl : (backTo pos (starEach [mb, mc] X.env)).any (·.1) = false) : PR3 X (.Call (.Name "range" pp) [ma, mb, mc] [] pos) (fun σ H Q => ta σ H fun vs H1 => ∃ i j k, vs = [.int i, .int j, .int k] ∧ k ≠ 0 ∧ k.natAbs < 1073741824 ∧ Q i j k H1) := by
  intro pins s σ H Q I h
  refine Call_ (ld_blt I hg hm boot_range (PyProof.Rows.callWith_type1 (thn (ha.run pos pins s σ H _ I h) fun us s1 ⟨vs, H1, I1, r1, q1⟩ => ?_) hs hpl))
  obtain ⟨i, j, k, e, c0, c1, q⟩ := q1
  subst e
  cases r1 with
  | cons r rr =>
    cases rr with
    | cons r' rr =>
      cases rr with
      | cons r'' rr =>
        cases rr
        obtain ⟨t, rfl⟩ := r
        obtain ⟨t', rfl⟩ := r'
        obtain ⟨t'', rfl⟩ := r''
        exact call_range_3 c0 ⟨_, i, j, k, _, _, _, H1, rfl, IsRange.new _ _ _ _ _ _ _, I1.kept fun b u e => Heap.get?_push_of_some _ e, q⟩ (.inl (PyProof.noPylong_small c1))
def tR3 (l : Bool) (te : St → Hp → (Int → Int → Int → Hp → Prop) → Prop) : TE := fun σ H Q => te σ H fun a b c H1 => ∃ n, RgC a b c n ∧ n ≤ 2 ^ 24 ∧ ∀ q, H1 q = none → Q (.ref q) (upd H1 q (if l then .lst (rgCV a c n) else .tup (rgCV a c n)))
theorem pe_listR3 {te : St → Hp → (Int → Int → Int → Hp → Prop) → Prop} (hc : X.calm = true) (hg : Gl X "list") (hm : X.mg "list" = none) (he : PR3 X me te) (na : starEach [me] X.env = (false, eval me X.env) :: starEach [] X.env) : PE X (.Call (.Name "list" pp) [me] [] pos) (tR3 true te) := by
  refine ⟨fun pins s σ H Q I h => ?_⟩
  refine Call_ (ld_blt I hg hm boot_list (PyProof.Rows.callWith_type1 (args_cons (thn (he pins s σ H _ I h) fun x s1 ⟨r, a, b, c, t, u, v, H1, ex, hr, I1, n, ⟨c0, c1, c2, c3⟩, hn, q⟩ => args_nil ?_) na) na))
  subst ex
  refine call_list_range (n := n) (I1.ok.hd hc) hr c2 c3 hn fun h' tk acc c' hk e' hi => ?_
  refine ⟨.ref s1.heap.objs.size, upd H1 s1.heap.objs.size (.lst (rgCV a c n)), I1.laid hk (Nat.le_refl _) (show ObjOk X.prog X.w _ _ _ (.lst (rgCV a c n)) from ⟨?_, acc.toList, c', vals_rgC hi, ?_⟩), rfl, q _ (I1.hok.fresh (Nat.le_refl _))⟩
  · rw [rgCV_len, sizeLine_eq]; omega
  · rw [Array.toArray_toList]; exact e'
theorem pe_tupR3 {te : St → Hp → (Int → Int → Int → Hp → Prop) → Prop} (hc : X.calm = true) (hg : Gl X "tuple") (hm : X.mg "tuple" = none) (he : PR3 X me te) (na : starEach [me] X.env = (false, eval me X.env) :: starEach [] X.env) : PE X (.Call (.Name "tuple" pp) [me] [] pos) (tR3 false te) := by
  refine ⟨fun pins s σ H Q I h => ?_⟩
  refine Call_ (ld_blt I hg hm boot_tuple (PyProof.Rows.callWith_type1 (args_cons (thn (he pins s σ H _ I h) fun x s1 ⟨r, a, b, c, t, u, v, H1, ex, hr, I1, n, ⟨c0, c1, c2, c3⟩, hn, q⟩ => args_nil ?_) na) na))
  subst ex
  refine call_tuple_range (n := n) (I1.ok.hd hc) hr c2 c3 hn fun h' tk acc hk hi => ?_
  have I2 : Inv X pins σ H1 { s1 with heap := h', toks := tk } := I1.kept hk
  refine ⟨.ref h'.objs.size, upd H1 h'.objs.size (.tup (rgCV a c n)), I2.laid (t' := tk) (fun c o e => Heap.get?_push_of_some _ e) (Nat.le_refl _) (show ObjOk X.prog X.w _ _ _ (.tup (rgCV a c n)) from ⟨?_, acc.toList, vals_rgC hi, ?_⟩), rfl, q _ (I2.hok.fresh (Nat.le_refl _))⟩
  · rw [rgCV_len, sizeLine_eq]; omega
  · rw [Array.toArray_toList]; exact IsTup.new _ _
theorem ofw_rep {l : Bool} {k : IK} {es : List E} {env : Env} {d : D} {vs : List D} (hd : ev G env (.ofw l k es) = some d) (hv : evB G env es = some vs) : ∃ xs, walkO k vs = some xs ∧ xs.length ≤ line ∧ d = if l then .lst xs else .tup xs := by
  obtain ⟨vs', hv', hd⟩ := Option.bind_eq_some_iff.mp (show (evB G env es).bind _ = some d from hd)
  rw [hv] at hv'; cases hv'
  obtain ⟨xs, hw, hd⟩ := Option.bind_eq_some_iff.mp hd
  have hl : xs.length ≤ line := Decidable.byContradiction fun n => by rw [if_neg n] at hd; cases hd
  rw [if_pos hl] at hd
  cases hd
  exact ⟨xs, hw, hl, rfl⟩
theorem rgD_C (lo : Int) (n : Nat) : rgD lo n = (List.range n).map fun (k : Nat) => .int (lo + k * 1) := by
  unfold rgD; exact List.map_congr_left fun k _ => by rw [Int.mul_one]
theorem rgc_one {i j : Int} (h : -(2 ^ 62) ≤ i ∧ i < 2 ^ 62 ∧ -(2 ^ 62) ≤ j ∧ j < 2 ^ 62) : RgC i j 1 (j - i).toNat := ⟨by decide, by decide, small_one h.1 h.2.1 h.2.2.1 h.2.2.2, rangeSize_nat i j⟩
theorem lay_R3 {Q : VK} {F1 H1 : Hp} {l : Bool} {i c : Int} {n : Nat} (le : FLe F1 H1) (hn : n ≤ line) (k : Want K F1 H1 (if l then .lst ((List.range n).map fun (j : Nat) => .int (i + j * c)) else .tup ((List.range n).map fun (j : Nat) => .int (i + j * c))) Q) : ∀ q, H1 q = none → Q (.ref q) (upd H1 q (if l then .lst (rgCV i c n) else .tup (rgCV i c n))) := by
  intro q nn
  cases l with
  | true => exact Want.lst k le rep_rgC (by simpa using hn) nn
  | false => exact Want.tup k le rep_rgC (by simpa using hn) nn
theorem k_ofw_r1 {l : Bool} {ty : Str} (h1 : ∀ {te}, PR3 X (.Call (.Name "range" p2) [ma] [] pos2) te → PE X (.Call (.Name ty pp) [.Call (.Name "range" p2) [ma] [] pos2] [] pos) (tR3 l te)) (g : GoodX X) (ha : PA X [ma] (tM false X.K G [a])) (hg : Gl X "range") (hs : starEach [ma] X.env = [(false, eval ma X.env)]) :
    PE X (.Call (.Name ty pp) [.Call (.Name "range" p2) [ma] [] pos2] [] pos) (tD X.K G (.ofw l .r1 [a])) :=
  (h1 (pr3_1 hg (g.bl _ (by decide +kernel)) ha hs)).imp fun σ H Q ⟨F, env, d, o, hd, k⟩ => by
    obtain ⟨vs, hv, -⟩ := Option.bind_eq_some_iff.mp (show (evB G env [a]).bind _ = some d from hd)
    obtain ⟨xs, hw, hl, e0⟩ := ofw_rep hd hv
    clear hd
    subst e0
    refine runM (fr := false) o hv fun F1 H1 ws x1 o1 st r1 => ?_
    rcases vs with _ | ⟨d, _ | ⟨d2, r⟩⟩ <;> (try simp only [walkO, walk] at hw) <;> try cases hw
    all_goals (cases d <;> (try simp only [walkO, walk] at hw) <;> try cases hw)
    split at hw <;> cases hw
    rename_i n hb
    obtain ⟨v, r', rfl, r1, e⟩ := r1
    cases e
    have hl' : n.toNat ≤ line := by simpa [rgD] using hl
    rw [rgD_C] at k
    have hc := rgc_one (i := 0) (j := n) ⟨by decide, by decide, hb.1, hb.2⟩
    rw [Int.sub_zero] at hc
    exact ⟨n, by rw [r1.int], n.toNat, hc, hl', lay_R3 o1.le hl' fun F' H' w x2 l2 r2 => k F' H' w (x1.trans x2) l2 r2⟩
theorem k_ofw_r2 {l : Bool} {ty : Str} (h1 : ∀ {te}, PR3 X (.Call (.Name "range" p2) [ma, mb] [] pos2) te → PE X (.Call (.Name ty pp) [.Call (.Name "range" p2) [ma, mb] [] pos2] [] pos) (tR3 l te)) (g : GoodX X) (ha : PA X [ma, mb] (tM false X.K G [a, b])) (hg : Gl X "range") (hs : starEach [ma, mb] X.env = [(false, eval ma X.env), (false, eval mb X.env)]) (hs2 : starEach [mb] X.env = [(false, eval mb X.env)]) :
    PE X (.Call (.Name ty pp) [.Call (.Name "range" p2) [ma, mb] [] pos2] [] pos) (tD X.K G (.ofw l .r2 [a, b])) :=
  (h1 (pr3_2 hg (g.bl _ (by decide +kernel)) ha hs hs2)).imp fun σ H Q ⟨F, env, d, o, hd, k⟩ => by
    obtain ⟨vs, hv, -⟩ := Option.bind_eq_some_iff.mp (show (evB G env [a, b]).bind _ = some d from hd)
    obtain ⟨xs, hw, hl, e0⟩ := ofw_rep hd hv
    clear hd
    subst e0
    refine runM (fr := false) o hv fun F1 H1 ws x1 o1 st r1 => ?_
    rcases vs with _ | ⟨d, _ | ⟨d2, _ | ⟨d3, r⟩⟩⟩ <;> (try simp only [walkO, walk] at hw) <;> try cases hw
    all_goals (cases d <;> (try simp only [walkO, walk] at hw) <;> try cases hw)
    all_goals (cases d2 <;> (try simp only [walkO, walk] at hw) <;> try cases hw)
    split at hw <;> cases hw
    rename_i i j hb
    obtain ⟨v, r', rfl, r1, u, r'', rfl, r2, e⟩ := r1
    cases e
    have hl' : (j - i).toNat ≤ line := by simpa [rgD] using hl
    rw [rgD_C] at k
    exact ⟨i, j, by rw [r1.int, r2.int], _, rgc_one hb, hl', lay_R3 o1.le hl' fun F' H' w x2 l2 r2 => k F' H' w (x1.trans x2) l2 r2⟩
theorem k_ofw_r3 {l : Bool} {ty : Str} (h1 : ∀ {te}, PR3 X (.Call (.Name "range" p2) [ma, mb, mc] [] pos2) te → PE X (.Call (.Name ty pp) [.Call (.Name "range" p2) [ma, mb, mc] [] pos2] [] pos) (tR3 l te)) (g : GoodX X) (ha : PA X [ma, mb, mc] (tM false X.K G [a, b, c])) (hg : Gl X "range") (hs : starEach [ma, mb, mc] X.env = (false, eval ma X.env) :: starEach [mb, mc] X.env) (hpl : (backTo pos2 (starEach [mb, mc] X.env)).any (·.1) = false) :
    PE X (.Call (.Name ty pp) [.Call (.Name "range" p2) [ma, mb, mc] [] pos2] [] pos) (tD X.K G (.ofw l .r3 [a, b, c])) :=
  (h1 (pr3_3 hg (g.bl _ (by decide +kernel)) ha hs hpl)).imp fun σ H Q ⟨F, env, d, o, hd, k⟩ => by
    obtain ⟨vs, hv, -⟩ := Option.bind_eq_some_iff.mp (show (evB G env [a, b, c]).bind _ = some d from hd)
    obtain ⟨xs, hw, hl, e0⟩ := ofw_rep hd hv
    clear hd
    subst e0
    refine runM (fr := false) o hv fun F1 H1 ws x1 o1 st r1 => ?_
    rcases vs with _ | ⟨d, _ | ⟨d2, _ | ⟨d3, _ | ⟨d4, r⟩⟩⟩⟩ <;> (try simp only [walkO, walk] at hw) <;> try cases hw
    all_goals (cases d <;> (try simp only [walkO, walk] at hw) <;> try cases hw)
    all_goals (cases d2 <;> (try simp only [walkO, walk] at hw) <;> try cases hw)
    all_goals (cases d3 <;> (try simp only [walkO, walk] at hw) <;> try cases hw)
    split at hw <;> cases hw
    rename_i i j c' hb
    obtain ⟨v, r', rfl, r1, u, r'', rfl, r2, t, r3, rfl, q3, e⟩ := r1
    cases e
    have hl' : rsize i j c' ≤ line := by simpa using hl
    exact ⟨i, j, c', by rw [r1.int, r2.int, q3.int], hb.2.2.2.2.1, hb.2.2.2.2.2, _, rgC_of hb.1 hb.2.1 hb.2.2.1 hb.2.2.2.1 hb.2.2.2.2.1 hb.2.2.2.2.2, hl', lay_R3 o1.le hl' fun F' H' w x2 l2 r2 => k F' H' w (x1.trans x2) l2 r2⟩
theorem k_ofw_l_r1 (g : GoodX X) (ha : PA X [ma] (tM false X.K G [a])) (hL : Gl X "list" := by rfl) (hg : Gl X "range" := by rfl) (hs : starEach [ma] X.env = [(false, eval ma X.env)] := by rfl) (na : starEach [.Call (.Name "range" p2) [ma] [] pos2] X.env = (false, eval (.Call (.Name "range" p2) [ma] [] pos2) X.env) :: starEach [] X.env := by rfl) :
    PE X (.Call (.Name "list" pp) [.Call (.Name "range" p2) [ma] [] pos2] [] pos) (tD X.K G (.ofw true .r1 [a])) := k_ofw_r1 (fun h => pe_listR3 g.calm hL (g.bl _ (by decide +kernel)) h na) g ha hg hs
theorem k_ofw_l_r2 (g : GoodX X) (ha : PA X [ma, mb] (tM false X.K G [a, b])) (hL : Gl X "list" := by rfl) (hg : Gl X "range" := by rfl) (hs : starEach [ma, mb] X.env = [(false, eval ma X.env), (false, eval mb X.env)] := by rfl) (hs2 : starEach [mb] X.env = [(false, eval mb X.env)] := by rfl) (na : starEach [.Call (.Name "range" p2) [ma, mb] [] pos2] X.env = (false, eval (.Call (.Name "range" p2) [ma, mb] [] pos2) X.env) :: starEach [] X.env := by rfl) :
    PE X (.Call (.Name "list" pp) [.Call (.Name "range" p2) [ma, mb] [] pos2] [] pos) (tD X.K G (.ofw true .r2 [a, b])) := k_ofw_r2 (fun h => pe_listR3 g.calm hL (g.bl _ (by decide +kernel)) h na) g ha hg hs hs2
theorem k_ofw_t_r1 (g : GoodX X) (ha : PA X [ma] (tM false X.K G [a])) (hL : Gl X "tuple" := by rfl) (hg : Gl X "range" := by rfl) (hs : starEach [ma] X.env = [(false, eval ma X.env)] := by rfl) (na : starEach [.Call (.Name "range" p2) [ma] [] pos2] X.env = (false, eval (.Call (.Name "range" p2) [ma] [] pos2) X.env) :: starEach [] X.env := by rfl) :
    PE X (.Call (.Name "tuple" pp) [.Call (.Name "range" p2) [ma] [] pos2] [] pos) (tD X.K G (.ofw false .r1 [a])) := k_ofw_r1 (fun h => pe_tupR3 g.calm hL (g.bl _ (by decide +kernel)) h na) g ha hg hs
theorem k_ofw_t_r2 (g : GoodX X) (ha : PA X [ma, mb] (tM false X.K G [a, b])) (hL : Gl X "tuple" := by rfl) (hg : Gl X "range" := by rfl) (hs : starEach [ma, mb] X.env = [(false, eval ma X.env), (false, eval mb X.env)] := by rfl) (hs2 : starEach [mb] X.env = [(false, eval mb X.env)] := by rfl) (na : starEach [.Call (.Name "range" p2) [ma, mb] [] pos2] X.env = (false, eval (.Call (.Name "range" p2) [ma, mb] [] pos2) X.env) :: starEach [] X.env := by rfl) :
    PE X (.Call (.Name "tuple" pp) [.Call (.Name "range" p2) [ma, mb] [] pos2] [] pos) (tD X.K G (.ofw false .r2 [a, b])) := k_ofw_r2 (fun h => pe_tupR3 g.calm hL (g.bl _ (by decide +kernel)) h na) g ha hg hs hs2
theorem k_ofw_l_r3 (g : GoodX X) (ha : PA X [ma, mb, mc] (tM false X.K G [a, b, c])) (hL : Gl X "list" := by rfl) (hg : Gl X "range" := by rfl) (hs : starEach [ma, mb, mc] X.env = (false, eval ma X.env) :: starEach [mb, mc] X.env := by rfl) (hpl : (backTo pos2 (starEach [mb, mc] X.env)).any (·.1) = false := by rfl) (na : starEach [.Call (.Name "range" p2) [ma, mb, mc] [] pos2] X.env = (false, eval (.Call (.Name "range" p2) [ma, mb, mc] [] pos2) X.env) :: starEach [] X.env := by rfl) :
    PE X (.Call (.Name "list" pp) [.Call (.Name "range" p2) [ma, mb, mc] [] pos2] [] pos) (tD X.K G (.ofw true .r3 [a, b, c])) := k_ofw_r3 (fun h => pe_listR3 g.calm hL (g.bl _ (by decide +kernel)) h na) g ha hg hs hpl
end
end Rx
/-! ### defs that change their first argument's list -/
namespace Rx
open PySem PySem.Spec PyProof.Rows L2
section
variable {P : Program} {w : World} {K : PySem.W.Frag} {mg : Str → Option Value} {base : Heap} {defs : Nat → Option Fn}
structure CalI (P : Program) (w : World) (K : PySem.W.Frag) (mg : Str → Option Value) (base : Heap) (A : Around) (GI : Gm) (x : Str) (f n : Nat) : Prop where
  ok : CallC P w K mg base A x n (spI K n (GI f))
  len : ∀ ds d, GI f ds = some d → ds.length = n
abbrev CaI (X : Cx) (GI : Gm) (x : Str) (f n : Nat) : Prop := CalI X.prog X.w X.K X.mg X.base X.A GI x f n
theorem runI_len {k id : Nat} {fn : Fn} (hd : defs id = some fn) (ds : List D) (d : D) (h : runI defs k id ds = some d) : ds.length = fn.ps := by
  cases k with
  | zero => cases h
  | succ k =>
    have h : ((defs id).bind fun fn => if fn.io = true ∧ ds.length = fn.ps then retI (exs (run defs k) (runI defs k) (fn.start ds) fn.body) else none) = some d := h
    rw [hd] at h
    have h : (if fn.io = true ∧ ds.length = fn.ps then retI (exs (run defs k) (runI defs k) (fn.start ds) fn.body) else none) = some d := h
    exact Decidable.byContradiction fun n => by rw [if_neg fun z => n z.2] at h; cases h
theorem calI_of {X : Cx} {k id : Nat} {x : Str} {ps : List Str} {fn : Fn} (T : FnGood X.prog X.w X.K X.mg X.base k x ps (spI X.K fn.ps (runI defs k id))) (hr : Room k X.A) (hd : defs id = some fn) (hps : ps.length = fn.ps) : CaI X (runI defs k) x id fn.ps := by
  obtain ⟨fa, fd, hk, hm, hb, F⟩ := T.ex
  exact ⟨⟨k, fa, fd, ps, hps, F, hr, hm, hk, hb⟩, fun ds d => runI_len hd ds d⟩
theorem startI_eq {fn : Fn} (hio : fn.io = true) (x : D) (ds : List D) : fn.start (x :: ds) = .own x :: (ds.map Cell.val ++ List.replicate (fn.ns - fn.ps) .unk) := by
  unfold Fn.start
  rw [hio]; rfl
theorem start_okI {F H : Hp} {N : List Str} {x : D} {ds : List D} {a : Addr} {ws : List V} {fn : Fn} (l : FLe F H) (f : F a = none) (ow : OwnAt K F H a x) (r : RepL K F ds ws) (hio : fn.io = true) (hv : ws.length + 1 = fn.ps) (hN : N.length = fn.ns) (hp : fn.ps ≤ fn.ns) : Ok K F H (L2.start N (.ref a :: ws)) (fn.start (x :: ds)) := by
  have hl := r.length
  rw [startI_eq hio]
  refine ⟨l, ⟨?_, fun i d h => ?_, fun i d h => ?_, fun i j d e b hij h1 h2 h3 => ?_⟩⟩
  · unfold L2.start
    simp only [List.length_append, List.length_map, List.length_replicate, List.length_cons]
    omega
  · cases i with
    | zero => cases h
    | succ i =>
      rw [List.getElem?_cons_succ] at h
      by_cases hi : i < ds.length
      · rw [List.getElem?_append_left (by simpa using hi), List.getElem?_map, List.getElem?_eq_getElem hi] at h
        cases h
        obtain ⟨v, h1, h2⟩ := r.get (List.getElem?_eq_getElem hi)
        refine ⟨v, ?_, h2⟩
        unfold L2.start
        rw [List.map_cons, List.cons_append, List.getElem?_cons_succ, List.getElem?_append_left (by simp; omega), List.getElem?_map, h1]; rfl
      · rw [List.getElem?_append_right (by simpa using hi)] at h
        rw [List.getElem?_replicate] at h
        split at h <;> cases h
  · cases i with
    | zero =>
      rw [List.getElem?_cons_zero] at h
      cases h
      exact ⟨a, rfl, f, ow⟩
    | succ i =>
      rw [List.getElem?_cons_succ] at h
      by_cases hi : i < ds.length
      · rw [List.getElem?_append_left (by simpa using hi), List.getElem?_map, List.getElem?_eq_getElem hi] at h
        cases h
      · rw [List.getElem?_append_right (by simpa using hi)] at h
        rw [List.getElem?_replicate] at h
        split at h <;> cases h
  · have key : ∀ {i : Nat} {d : D}, (Cell.own x :: (ds.map Cell.val ++ List.replicate (fn.ns - fn.ps) .unk))[i]? = some (.own d) → i = 0 := by
      intro i d h
      cases i with
      | zero => rfl
      | succ i =>
        rw [List.getElem?_cons_succ] at h
        by_cases hi : i < ds.length
        · rw [List.getElem?_append_left (by simpa using hi), List.getElem?_map, List.getElem?_eq_getElem hi] at h
          cases h
        · rw [List.getElem?_append_right (by simpa using hi)] at h
          rw [List.getElem?_replicate] at h
          split at h <;> cases h
    exact absurd ((key h1).trans (key h2).symm) hij
theorem own_start {N : List Str} {x : D} {ds : List D} {a b : Addr} {ws : List V} {fn : Fn} (hio : fn.io = true) (h : Own (L2.start N (.ref a :: ws)) (fn.start (x :: ds)) b) : b = a := by
  obtain ⟨i, e, h1, h2⟩ := h
  rw [startI_eq hio] at h1
  cases i with
  | zero =>
    have h2 : some (some (V.ref a)) = some (some (V.ref b)) := h2
    injection h2 with h2
    injection h2 with h2
    injection h2 with h2
    exact h2.symm
  | succ i =>
    rw [List.getElem?_cons_succ] at h1
    by_cases hi : i < ds.length
    · rw [List.getElem?_append_left (by simpa using hi), List.getElem?_map, List.getElem?_eq_getElem hi] at h1
      cases h1
    · rw [List.getElem?_append_right (by simpa using hi)] at h1
      rw [List.getElem?_replicate] at h1
      split at h1 <;> cases h1
theorem fn_bodyI {k id : Nat} {fn : Fn} {N : List Str} {vs : List V} {H : Hp} {Q : VK} {E : XK} (hd : defs id = some fn) (hio : fn.io = true) (hmk : mkSs fn.body = false) (hN : N.length = fn.ns) (hp : fn.ps ≤ fn.ns) (h : spI K fn.ps (runI defs (k + 1) id) vs H Q E) :
    tSs K (run defs k) (runI defs k) fn.body { nx := fun _ H' => Q .non H', rt := Q } (L2.start N vs) H := by
  obtain ⟨hv, F, a, x, ds, ws, d, rfl, l, f, ow, r, hr, q⟩ := h
  have hr : ((defs id).bind fun fn => if fn.io = true ∧ (x :: ds).length = fn.ps then retI (exs (run defs k) (runI defs k) (fn.start (x :: ds)) fn.body) else none) = some d := hr
  rw [hd] at hr
  have hr : (if fn.io = true ∧ (x :: ds).length = fn.ps then retI (exs (run defs k) (runI defs k) (fn.start (x :: ds)) fn.body) else none) = some d := hr
  have hl := r.length
  simp only [List.length_cons] at hv
  rw [if_pos ⟨hio, by rw [List.length_cons]; omega⟩] at hr
  cases hx : exs (run defs k) (runI defs k) (fn.start (x :: ds)) fn.body with
  | none => rw [hx] at hr; cases hr
  | some r' =>
    rw [hx] at hr
    obtain ⟨fl, env'⟩ := r'
    have key : fl = .nx ∧ ∃ rest, env' = .own d :: rest := by
      cases fl with
      | nx =>
        cases env' with
        | nil => cases hr
        | cons c rest =>
          cases c with
          | own d' => cases hr; exact ⟨rfl, rest, rfl⟩
          | val d' => cases hr
          | unk => cases hr
      | brk => cases hr
      | rt d' => cases hr
    obtain ⟨rfl, rest, rfl⟩ := key
    refine ⟨F, fn.start (x :: ds), (.nx, .own d :: rest), start_okI l f ow r hio (by omega) hN hp, hx, ?_⟩
    intro F' H' σ' st
    obtain ⟨a', h1, h2, h3⟩ := st.ok.en.own 0 d rfl
    have ea : a' = a := by
      rcases st.ow a' ⟨0, d, rfl, h1⟩ with z | ⟨_, z⟩
      · exact own_start hio z
      · rw [hmk] at z; cases z
    subst ea
    have no : ∀ b, b ≠ a' → ¬ Own (L2.start N (.ref a' :: ws)) (fn.start (x :: ds)) b := fun b nb z => nb (own_start hio z)
    exact q F' H' st.re.f (fun b u e nb => ⟨st.re.h b u e (no b nb), fun z => st.re.n b u e z (no b nb)⟩) st.re.le h2 h3
theorem fn_stepI {k id : Nat} {x : Str} {st : Stmt} {N ps : List Str} {fn : Fn} (h : HasFn K mg x st ps) (S : FnScope N ps (defScope st)) (hd : defs id = some fn) (hio : fn.io = true) (hmk : mkSs fn.body = false) (hps : ps.length = fn.ps) (hN : N.length = fn.ns) (hp : fn.ps ≤ fn.ns)
    (hb : ∀ (f : Addr) (cdv : Value) (A : Around) (outer : List PySem.Env) (s : Shared) (H : Hp) (E : XK), Room k (A.deeper (envOfC x (defScope st) s.heap.objs.size f cdv)) →
      PSs (cx P w K mg base N x (defScope st) f cdv A outer s H E) (defBody st) (tSs K (run defs k) (runI defs k) fn.body)) :
    FnGood P w K mg base (k + 1) x ps (spI K fn.ps (runI defs (k + 1) id)) := by
  obtain ⟨fa, fd, F, hm, hbi⟩ := h.ex
  exact ⟨fa, fd, F.kp, hm, hbi, F.ok S (fun vs H Q E h => by rw [hps]; exact h.1) fun cdv A outer s H vs Q E hr h => ⟨_, (hb fa cdv A outer s H E hr).nox, fn_bodyI hd hio hmk hN hp h⟩⟩
variable {X : Cx} {G GI : Gm} {es : List E} {mes : List Expr} {pos pos' pp py : Pos} {y : Str}
theorem ks_callIO {x : Str} {f n i : Nat} (c : CaI X GI x f n) (hv : PE X (.Name y py) (L2.tVar i)) (ha : PA X mes (tL X.K G es)) (hg : Gl X x := by rfl) (hdb : (x == ("__debug__" : Str)) = false := by decide +kernel)
    (hs : starEach (.Name y py :: mes) X.env = (false, eval (.Name y py) X.env) :: starEach mes X.env := by rfl) (hpl : (backTo pos (starEach mes X.env)).any (·.1) = false := by rfl) (hsw : swapsWith (.Call (.Name x pp) (.Name y py :: mes) [] pos) none pos'.line X.env = pure false := by rfl) :
    PS X (.Expr (.Call (.Name x pp) (.Name y py :: mes) [] pos) pos') (tS X.K G GI (.callIO f i es)) := s_callIO c.ok c.len hg hv ha hdb hs hpl hsw
variable {a b : E} {ma mb : Expr}
theorem c_isin (g : GoodX X) (ha : PE X ma (tB X.K G a)) (hb : PE X mb (tB X.K G b)) : PC X .In ma mb (tC2 X.K G .isin a b) := c_in g ha hb
end
end Rx
end

section
set_option Elab.async false
set_option linter.all false
set_option maxRecDepth 100000
set_option maxHeartbeats 4000000
set_option autoImplicit false
/-! RxKit5: sorted(set(xs)). -/
namespace Rx
open PySem PySem.Spec PyProof.Rows L2
section
variable {P : Program} {w : World} {A : Around} {E : Value → Shared → Prop} {s : Shared}
/-- set(l), l a list of ints (SetFor's road, from a list) -/
theorem call_set_lstI {l : Addr} {items : Array Value} (ns : List Int) {Q : Value → Shared → Prop} (hh : A.handled = none) (hl : s.heap.IsList l items) (hit : IntsAre items.toList ns) (hb : ns.length + 1 < scanBound)
    (h : ∀ (h' : Heap) (tk c : Nat), SetR w h' s.heap.objs.size (fun j => decide (j ∈ ns)) c → c ≤ ns.length → (∀ b o, s.heap.get? b = some o → h'.get? b = some o) → Q (.ref s.heap.objs.size) { s with heap := h', toks := tk }) :
    wpAny (model P w) A (call (.type "set") [.ref l]) Q E s := by
  have hisz : items.size = ns.length := (Array.length_toList).symm.trans (IntsAre.length hit)
  obtain ⟨c, tl, hmro⟩ := F.called_set.mro
  have hmade := F.called_set.made
  have hsub := F.called_set.sub
  refine wpAny_call (codeAny_of_tree ?_)
  show wpAny _ _ (callAny (.type "set") _) _ _ _
  refine wpAny_pure ⟨Code.quiet_builtin _ (by decide +kernel), codeAny_builtin F.entry_type_call ?_⟩
  rw [Around.under_plain (weight_type_call_type "set" [.ref l] []) rfl]
  have h1 := F.called_set.notType
  have h2 := F.called_set.canCreate
  have hct := F.typeCall_set_1 (.ref l)
  repeat (any_goals (first | assumption | wp_step))
  generalize hN : s.heap.push { cls := .type "set", dict := none, data := .set #[] 0 (.fresh 0 0 (!w.params.followText "set-order")) } = N
  have hNz : N.objs.size = s.heap.objs.size + 1 := by rw [← hN]; exact Heap.size_push ..
  have hNS : N.get? s.heap.objs.size = some { cls := .type "set", dict := none, data := .set #[] 0 (.fresh 0 0 (!w.params.followText "set-order")) } := by rw [← hN]; exact Heap.get?_push_size _ rfl
  have hNk : ∀ b o, s.heap.get? b = some o → N.get? b = some o := fun b o e => by rw [← hN]; exact Heap.get?_push_of_some _ e
  refine codeAny_mono (code_set_led1 (.ref l) (E := E) (Q₁ := fun obj s₁ => obj = .ref s.heap.objs.size ∧ s₁ = { s with heap := N }) ⟨rfl, by rw [hN]⟩) fun r s₁ hr => ?_
  cases r with
  | error e => exact hr
  | ok fl =>
    cases fl with
    | ret obj =>
      obtain ⟨rfl, rfl⟩ := hr
      have hT : Shared.TypeIs { s with heap := N } (.ref s.heap.objs.size) "set" := ⟨_, hNS, rfl⟩
      have hli := F.called_set.init.lookup
      have hbi := F.called_set.init.bind (.ref s.heap.objs.size)
      repeat (any_goals (first | assumption | wp_step))
      refine codeAny_mono (codeAny_call_builtin (R := wants (fun r s₂ => r = .none ∧ ∃ h' tk c, s₂ = { s with heap := h', toks := tk } ∧ SetR w h' s.heap.objs.size (fun j => decide (j ∈ ns)) c ∧ c ≤ ns.length ∧
          (∀ b o, s.heap.get? b = some o → h'.get? b = some o)) E) F.called_set.init.plain F.entry_set_init (check_set_init_1 hT ?_)) fun r₂ s₂ hr₂ => ?_
      · obtain ⟨⟨ocls, odict, odata, oslots⟩, hol, hcl, nl, hdl⟩ := hl
        simp only at hcl hdl
        subst hcl; subst hdl
        have hol' := hNk _ _ hol
        have hsls := F.sub_list_set
        have hslf := F.sub_list_frozenset
        have hne : (Value.type "list" == Value.type "dict") = false := by decide
        have hl1 : N.IsList l items := ⟨_, hol', rfl, nl, rfl⟩
        unfold Builtin.«set.__init__» noKeywords Builtin.Frozenset.updateFrom
        generalize hPI : pyIter = PI
        wp_walk
        subst hPI
        refine wpAny_pyIter_list hl1 ?_
        refine wpAny_bind (wpAny_runValue ?_)
        have hlS : l < s.heap.objs.size := Heap.lt_size hol
        have hh3 : A.in1.in1.in1.handled = none := by simp [hh]
        have hneI : l ≠ N.objs.size := fun e => Nat.lt_irrefl _ (Nat.lt_trans hlS (Nat.lt_of_lt_of_eq (Nat.lt_succ_self _) (hNz.symm.trans e.symm)))
        have hSf : s.heap.objs.size ∉ [N.objs.size, l] := by
          simp only [List.mem_cons, List.not_mem_nil, or_false, not_or]
          exact ⟨fun e => Nat.ne_of_lt (Nat.lt_succ_self _) (e.trans hNz), Nat.ne_of_gt hlS⟩
        have hval : ∀ (i : Nat) (v : Value), items[i]? = some v → ∃ k t, ns[i]? = some k ∧ v = .int k t := fun i v hv => by
          have hi : i < ns.length := by rw [← hisz]; exact (Array.getElem?_eq_some_iff.mp hv).1
          obtain ⟨t, e⟩ := PyProof.Rows.IntsAre.int_at hit i v (by rw [Array.getElem?_toList]; exact hv)
          exact ⟨ns[i], t, List.getElem?_eq_getElem hi, by rw [e, List.getD_eq_getElem?_getD, List.getElem?_eq_getElem hi] <;> rfl⟩
        refine set_update_ints ((Walks.list hh3 _ l hneI items).toS) s.heap.objs.size hSf ns hisz hb hval (items.size - 0) 0 _ (by omega) (Nat.zero_le _)
          ⟨⟨_, Heap.get?_push_size _ rfl, rfl, rfl⟩, (hl1.push _)⟩ ⟨0, Nat.le_refl 0, setR_new_at (Heap.get?_push_of_some _ hNS)⟩ fun s' c' hm hc' hS' => ?_
        obtain ⟨h', g2, d', tk', os'⟩ := s'
        have eg : g2 = s.gens := hm.gens
        have ed : d' = s.drawn := hm.drawn
        have eo : os' = s.os := hm.os
        subst eg; subst ed; subst eo
        show wpAny _ _ _ _ _ _
        refine wpAny_pure ?_
        show wpAny _ _ (ret Value.none) _ _ _
        rw [hisz] at hc'
        refine wpAny_pure ⟨rfl, h', tk', c', rfl, hS', hc', fun b o e => hm.heap b o ?_ (Heap.get?_push_of_some _ (hNk b o e))⟩
        have hb0 : b < s.heap.objs.size := Heap.lt_size e
        simp only [List.mem_cons, List.not_mem_nil, or_false, not_or]
        exact ⟨Nat.ne_of_lt hb0, fun e => Nat.ne_of_lt (Nat.lt_succ_of_lt hb0) (e.trans hNz)⟩
      · cases r₂ with
        | error e => exact hr₂
        | ok fl₂ =>
          cases fl₂ with
          | ret r =>
            obtain ⟨rfl, h', tk, c', rfl, hS', hc', hk'⟩ := hr₂
            repeat (any_goals (first | assumption | wp_step))
            exact h _ _ _ hS' hc' hk'
          | _ => exact hr₂.elim
    | _ => exact hr.elim
end
/-- set(xs), a list or a tuple of fewer than 64 ints -/
def rSetI (w : World) : List V → Hp → VK → Prop := fun vs H Q => ∃ (l : Addr) (ns : List Int), vs = [.ref l] ∧ (H l = some (.lst (ns.map V.int)) ∨ H l = some (.tup (ns.map V.int))) ∧ ns.length < 64 ∧
  ∀ p c, c ≤ ns.length → H p = none → Q (.ref p) (upd H p (SetO w p (fun j => decide (j ∈ ns)) c))
section
variable {X : Cx} {G : Gm} {a : E} {ma : Expr} {pos pp p2 pos2 : Pos}
theorem cr_setI (hc : X.calm = true) : CallR X (.type "set") (rSetI X.w) := by
  intro pins s σ H xs us Q I r h
  obtain ⟨l, ns, rfl, hl, hz, q⟩ := h
  rw [Vals.ref1 r]
  rcases hl with hl | hl
  · obtain ⟨its, rv, p, _⟩ := I.list (SqL.of hl)
    refine call_set_lstI ns (I.ok.hd hc) p.isList (by simpa using ints_of_vals rv) (by unfold scanBound; omega) fun h' tk c R hcn k => ?_
    exact ⟨.ref _, _, I.laid (t' := tk) k (Nat.le_refl _) (setO_new R), rfl, q _ c hcn (I.hok.fresh (Nat.le_refl _))⟩
  · obtain ⟨its, rv, p, _⟩ := I.tuple (SqT.of hl)
    refine call_set_tupI ns (I.ok.hd hc) p (by simpa using ints_of_vals rv) (by unfold scanBound; omega) fun h' tk c R hcn k => ?_
    exact ⟨.ref _, _, I.laid (t' := tk) k (Nat.le_refl _) (setO_new R), rfl, q _ c hcn (I.hok.fresh (Nat.le_refl _))⟩
theorem dedup_mem : ∀ (xs : List Int) (x : Int), x ∈ dedup xs ↔ x ∈ xs
  | [], _ => Iff.rfl
  | y :: xs, x => by
    unfold dedup
    by_cases h : xs.contains y = true
    · rw [if_pos h, dedup_mem xs x]
      refine ⟨fun z => List.mem_cons_of_mem _ z, fun z => ?_⟩
      rcases List.mem_cons.mp z with rfl | z
      · simpa using h
      · exact z
    · rw [if_neg h, List.mem_cons, List.mem_cons, dedup_mem xs x]
theorem dedup_nodup : ∀ (xs : List Int), (dedup xs).Nodup
  | [] => List.nodup_nil
  | y :: xs => by
    unfold dedup
    by_cases h : xs.contains y = true
    · rw [if_pos h]; exact dedup_nodup xs
    · rw [if_neg h, List.nodup_cons]
      exact ⟨fun z => h (by simpa using (dedup_mem xs y).mp z), dedup_nodup xs⟩
theorem setSort_mem (xs : List Int) (x : Int) : x ∈ setSort xs ↔ x ∈ xs := by unfold setSort; rw [List.mem_mergeSort, dedup_mem]
theorem setSort_lt (xs : List Int) : (setSort xs).Pairwise (· < ·) := by
  have h1 : (setSort xs).Pairwise (· ≤ ·) := by
    have := List.pairwise_mergeSort (le := fun a b : Int => decide (a ≤ b)) (fun a b c h1 h2 => by simp at *; omega) (fun a b => by simp; omega) (dedup xs)
    exact this.imp fun h => by simpa using h
  have h2 := List.nodup_iff_pairwise_ne.mp ((List.mergeSort_perm (dedup xs) fun a b => decide (a ≤ b)).nodup_iff.mpr (dedup_nodup xs))
  exact (List.Pairwise.and h1 h2).imp fun h => by omega
theorem asc_uniq : ∀ {l m : List Int}, l.Pairwise (· < ·) → m.Pairwise (· < ·) → (∀ x, x ∈ l ↔ x ∈ m) → l = m
  | [], [], _, _, _ => rfl
  | [], b :: m, _, _, h => by have := (h b).mpr (List.mem_cons_self ..); cases this
  | a :: l, [], _, _, h => by have := (h a).mp (List.mem_cons_self ..); cases this
  | a :: l, b :: m, h1, h2, h => by
    obtain ⟨a1, a2⟩ := List.pairwise_cons.mp h1
    obtain ⟨b1, b2⟩ := List.pairwise_cons.mp h2
    have e : a = b := by
      rcases List.mem_cons.mp ((h a).mp (List.mem_cons_self ..)) with q | q
      · exact q
      · rcases List.mem_cons.mp ((h b).mpr (List.mem_cons_self ..)) with z | z
        · exact z.symm
        · have := b1 a q; have := a1 b z; omega
    subst e
    refine congrArg (a :: ·) (asc_uniq a2 b2 fun x => ?_)
    constructor
    · intro z
      rcases List.mem_cons.mp ((h x).mp (List.mem_cons_of_mem _ z)) with q | q
      · have := a1 x z; omega
      · exact q
    · intro z
      rcases List.mem_cons.mp ((h x).mpr (List.mem_cons_of_mem _ z)) with q | q
      · have := b1 x z; omega
      · exact q
theorem kn_sset (g : GoodX X) (ha : PE X ma (tB X.K G a)) (hg : Gl X "sorted" := by rfl) (hg2 : Gl X "set" := by rfl) (hs : starEach [ma] X.env = [(false, eval ma X.env)] := by rfl)
    (hs2 : starEach [.Call (.Name "set" p2) [ma] [] pos2] X.env = (false, eval (.Call (.Name "set" p2) [ma] [] pos2) X.env) :: starEach [] X.env := by rfl) :
    PE X (.Call (.Name "sorted" pp) [.Call (.Name "set" p2) [ma] [] pos2] [] pos) (tN X.K G (.b1 .sset a)) :=
  (pe_callB (cr_sortedSet g.calm) hg (g.bl _ (by decide +kernel)) (by decide +kernel) (pa_cons (pe_callTy (cr_setI g.calm) hg2 (g.bl _ (by decide +kernel)) (by decide +kernel) (b_one ha hs) (by decide) (by decide) hs rfl) pa_nil hs2) (by decide) (by decide) hs2 rfl).imp fun σ H Q ⟨F, env, d, ok, hd, k⟩ => by
    obtain ⟨x, hx, hz⟩ := Option.bind_eq_some_iff.mp (show (bo env a (ev G env a)).bind _ = some d from hd)
    obtain ⟨xs, hsx, hz⟩ := Option.bind_eq_some_iff.mp (show x.seq?.bind (fun xs => (D.ints xs).bind fun ns => if ns.length < 64 then some (D.lst ((setSort ns).map .int)) else none) = some d from hz)
    obtain ⟨ns, hns, hz⟩ := Option.bind_eq_some_iff.mp hz
    have hl : ns.length < 64 := Decidable.byContradiction fun n => by rw [if_neg n] at hz; cases hz
    rw [if_pos hl] at hz
    cases hz
    refine runLB ok (show evB G env [a] = some [x] by show (bo env a (ev G env a)).bind _ = _; rw [hx]; rfl) fun F1 H1 vs x1 o1 r1 => ?_
    obtain ⟨v, r', rfl, r1, e1⟩ := r1
    cases e1
    obtain ⟨vs, ⟨l, rfl, e⟩, r, z⟩ := seqV_of hsx o1.le r1
    rw [ints_eq hns] at r
    rw [RepL.ints r] at e
    refine ⟨l, ns, rfl, e, hl, fun p c hc hn => ?_⟩
    show rSortedSet X.w [.ref p] _ Q
    refine ⟨p, _, c, rfl, upd_same, by omega, fun ms q hms hmem hlen hq => ?_⟩
    have em : ms = setSort ns := asc_uniq hms (setSort_lt ns) fun x => by rw [hmem, decide_eq_true_eq, setSort_mem]
    subst em
    have x2 : Ext F1 H1 F1 (upd H1 p (SetO X.w p (fun j => decide (j ∈ ns)) c)) := Ext.made hn
    exact WantN.lst (wantN_ext (x1.trans x2) k) (o1.le.made hn) (RepL.ofInts (setSort ns)) (by rw [List.length_map, hlen]; show _ ≤ 16777216; omega) hq
theorem k_sset (g : GoodX X) (ha : PE X ma (tB X.K G a)) (hg : Gl X "sorted" := by rfl) (hg2 : Gl X "set" := by rfl) (hs : starEach [ma] X.env = [(false, eval ma X.env)] := by rfl)
    (hs2 : starEach [.Call (.Name "set" p2) [ma] [] pos2] X.env = (false, eval (.Call (.Name "set" p2) [ma] [] pos2) X.env) :: starEach [] X.env := by rfl) :
    PE X (.Call (.Name "sorted" pp) [.Call (.Name "set" p2) [ma] [] pos2] [] pos) (tD X.K G (.b1 .sset a)) := (kn_sset g ha hg hg2 hs hs2).frz
end
end Rx
end

section
set_option Elab.async false
set_option linter.all false
set_option maxRecDepth 100000
set_option maxHeartbeats 1000000
set_option autoImplicit false
/-! RxKit6: t[::-1] of a tuple. -/
namespace Rx
open PySem PySem.Spec PyProof.Rows L2
section
variable {prog : Program} {w : World} {A : Around} {E : Value → Shared → Prop} {s : Shared}
theorem applied_back {sl : Addr} {vl vu vs : Value} {n : Nat} {Q : Int × Int × Nat → Shared → Prop} (hs : s.heap.IsSliceOf sl vl vu vs) (pl : IsPart vl none) (pu : IsPart vu none) (ps : IsPart vs (some (-1)))
    (h : Q ((n : Int) - 1, -1, n) s) : wpAny (model prog w) A (Builtin.Slice.sliceApplied (.ref sl) (pure (n : Int))) Q E s := by
  obtain ⟨os, hos, hcs, hds⟩ := id hs
  unfold Builtin.Slice.sliceApplied Builtin.Slice.sliceFields
  refine wpAny_bind (wpAny_bind (wpAny_field hos hds (x := vl) rfl (wpAny_bind (wpAny_field hos hds (x := vu) rfl (wpAny_bind (wpAny_field hos hds (x := vs) rfl (wpAny_pure ?_)))))))
  refine wpAny_bind (HT.slicePart_ ps ?_)
  show wpAny _ _ (if ((-1 : Int) == 0) = true then _ else _) _ _ s
  rw [if_neg (by decide)]
  refine wpAny_bind (HT.slicePart_ pl (wpAny_bind (HT.slicePart_ pu (wpAny_bind (wpAny_pure ?_)))))
  show wpAny _ _ (pure ((n : Int) - 1, (-1 : Int), Builtin.Slice.slicePlaces ((n : Int) - 1) (-1) (-1))) _ _ s
  have e : Builtin.Slice.slicePlaces ((n : Int) - 1) (-1) (-1) = n := by
    unfold Builtin.Slice.slicePlaces
    rw [if_neg (by omega)]
    by_cases q : ((n : Int) - 1) > -1
    · rw [if_pos q, show -(-1 : Int) = 1 by omega, Int.ediv_one]; omega
    · rw [if_neg q]; omega
  rw [e]
  exact wpAny_pure h
theorem pick_back (xs : List Value) : ((List.range xs.length).filterMap fun (m : Nat) => xs.toArray[(((xs.length : Int) - 1) + (m : Int) * (-1)).toNat]?).toArray = xs.reverse.toArray := by
  congr 1
  have h : ∀ m ∈ List.range xs.length, (xs.toArray[(((xs.length : Int) - 1) + (m : Int) * (-1)).toNat]?) = xs.reverse[m]? := fun m hm => by
    have hm := List.mem_range.mp hm
    rw [show (((xs.length : Int) - 1) + (m : Int) * (-1)).toNat = xs.length - 1 - m by omega, List.getElem?_reverse hm]
    simp
  rw [fm_congr h]
  have key : ∀ (ys : List Value), (List.range ys.length).filterMap (fun m => ys[m]?) = ys := by
    intro ys
    induction ys with
    | nil => rfl
    | cons y ys ih =>
      rw [List.length_cons, List.range_succ_eq_map, List.filterMap_cons]
      simp only [List.getElem?_cons_zero]
      rw [List.filterMap_map]
      congr 1
  have := key xs.reverse
  rw [List.length_reverse] at this
  exact this
theorem getItem_tuple_back {t sl : Addr} {its : List Value} {vl vu vs : Value} {Q : Value → Shared → Prop} (ht : IsTup s.heap t its.toArray) (hs : s.heap.IsSliceOf sl vl vu vs) (pl : IsPart vl none) (pu : IsPart vu none) (ps : IsPart vs (some (-1)))
    (h : Q (.ref s.heap.objs.size) { s with heap := s.heap.push { cls := .type "tuple", data := .seq its.reverse.toArray } }) (hsz : its.length ≤ sizeLine) : wpAny (model prog w) A (getItem (.ref t) (.ref sl)) Q E s := by
  have htake : sizeOk (.seq its.reverse.toArray) := by
    show its.reverse.toArray.size ≤ sizeLine
    rw [List.size_toArray, List.length_reverse]; exact hsz
  obtain ⟨os, hos, hcs, hds⟩ := id hs
  have hTs : s.TypeIs (.ref sl) "slice" := ⟨os, hos, hcs⟩
  unfold getItem
  try with_reducible refine wpAny_holding ?_
  first | refine wpAny_bind (wpAny_pure ?_) | skip
  refine wpAny_bind (wpAny_sequenceKey ht.typeIs (by decide) ?_)
  refine wpAny_bind (wpAny_callSpecial?_slot (name := Str.ofString "__getitem__") ht.typeIs PyProof.Rows.slot_tuple_getitem
    (wpAny_call_entry PyProof.Rows.slot_tuple_getitem ht.typeIs entry_tuple_getitem ?_ (args_tuple_getitem _ _)))
  show wpAny _ _ (Builtin.Tuple.tupleItemsOf (.ref t) >>= _) _ _ s
  refine wpAny_bind (tupleItemsOf_ ht ?_)
  refine wpAny_bind (wpAny_typeOf hTs ?_)
  rw [if_pos (by decide)]
  have e0 : its.toArray.size = its.length := by simp
  rw [e0]
  refine wpAny_bind (applied_back hs pl pu ps ?_)
  have hno : ¬ ((((its.length : Int) - 1) == 0 && (-1 : Int) == 1 && its.length == its.length) = true) := by simp
  show wpAny _ _ (if (((its.length : Int) - 1) == 0 && (-1 : Int) == 1 && its.length == its.length) = true then _ else _) _ _ s
  rw [if_neg hno, pick_back]
  first
    | exact wpAny_bind (m := Builtin.Tuple.tupleExact _) (wpAny_newObj_type (wpAny_pure ⟨_, rfl, wpAny_pure h⟩) htake)
    | exact wpAny_bind (m := Builtin.Tuple.tupleExact _) (wpAny_newObj_type (wpAny_bind (wpAny_pure (wpAny_pure ⟨_, rfl, wpAny_pure h⟩))) htake)
    | exact wpAny_bind (wpAny_bind (m := Builtin.Tuple.tupleExact _) (wpAny_newObj_type (wpAny_pure (wpAny_pure ⟨_, rfl, wpAny_pure h⟩)) htake))
    | exact wpAny_bind (wpAny_bind (m := Builtin.Tuple.tupleExact _) (wpAny_newObj_type (wpAny_pure ⟨_, rfl, wpAny_pure h⟩) htake))
end
def tRevA (te : TE) : TE := fun σ H Q => te σ H fun x H1 => ∃ a xs, x = .ref a ∧ ((H1 a = some (.lst xs) ∧ ∀ p, H1 p = none → Q (.ref p) (upd H1 p (.lst xs.reverse))) ∨ (H1 a = some (.tup xs) ∧ ∀ p, H1 p = none → Q (.ref p) (upd H1 p (.tup xs.reverse))))
section
variable {X : Cx} {G : Gm} {a : E} {ma : Expr} {k : Nat} {p1 p2 p3 pos : Pos}
theorem pe_revA {te : TE} (he : PE X ma te) : PE X (.Subscript ma (.Slice none none (some (.UnaryOp .USub (.Constant (.int 1) k p1) p2)) p3) pos) (tRevA te) := by
  refine ⟨fun pins s σ H Q I h => ?_⟩
  refine Subscript_ (thn (he.run pins s σ H _ I h) fun v s1 ⟨x, H1, I1, r1, q1⟩ => ?_)
  obtain ⟨l, xs, ex, q⟩ := q1
  subst ex
  cases r1
  have hst : PO X (some (.UnaryOp .USub (.Constant (.int 1) k p1) p2)) (tPart (tUn (rU fun i => .int (-i)) (tC (.int 1)))) := po_some (pe_un un_neg pe_int)
  refine wpAny_Slice (thn (po_none.run pins s1 σ H1 (fun o H2 => o = none ∧ H2 = H1) I1 ⟨rfl, rfl⟩) fun vl s2 ⟨o1, H2, I2, pl, el, e2⟩ => ?_)
  subst el e2
  refine thn (po_none.run pins s2 σ H2 (fun o H3 => o = none ∧ H3 = H2) I2 ⟨rfl, rfl⟩) fun vu s3 ⟨o2, H3, I3, pu, eu, e3⟩ => ?_
  subst eu e3
  refine thn (hst.run pins s3 σ H3 (fun o H4 => o = some (-1) ∧ H4 = H3) I3 ⟨1, rfl, -1, rfl, rfl, rfl⟩) fun vs s4 ⟨o, H4, I4, ps, eo, e4⟩ => ?_
  subst eo e4
  have I5 : Inv X pins σ H4 { s4 with heap := s4.heap.push { cls := .type "slice", data := .fields #[vl, vu, vs] } } := I4.kept (t' := s4.toks) fun b ob q => Heap.get?_push_of_some _ q
  show wpAny (model X.prog X.w) X.A (subscriptTail ma (.Slice none none (some (.UnaryOp .USub (.Constant (.int 1) k p1) p2)) p3) (.ref l) (.ref s4.heap.objs.size)) (EP X pins σ Q) X.xe { s4 with heap := s4.heap.push { cls := .type "slice", data := .fields #[vl, vu, vs] } }
  rcases q with ⟨hx, q⟩ | ⟨hx, q⟩
  · obtain ⟨its, r, ht, hz⟩ := I5.list (SqL.of hx)
    have hlen := r.length
    refine tail_any (ops := [.ref l, .ref s4.heap.objs.size]) ht.isList.typeIs (PySem.slot_list_getitem.lookup) ?_ (by with_unfolding_all rfl)
    refine wpAny_getItem_list_slice ht.isList (Heap.IsSliceOf.new _ vl vu vs) pl pu ps (by decide) ?_ (by rw [List.size_toArray]; omega)
    rw [PySem.W.krv_pick]
    refine ⟨.ref _, _, I5.laid (t' := s4.toks) (o := .lst xs.reverse) (fun b ob q => Heap.get?_push_of_some _ q) (Nat.le_refl _) ?_, rfl, q _ (I5.hok.fresh (Nat.le_refl _))⟩
    exact ⟨by rw [List.length_reverse]; exact hz, _, 0, r.reverse, Heap.get?_push_size _ rfl⟩
  · obtain ⟨its, r, ht, hz⟩ := I5.tuple (SqT.of hx)
    have hlen := r.length
    refine tail_any (ops := [.ref l, .ref s4.heap.objs.size]) ht.typeIs (PyProof.Rows.slot_tuple_getitem.lookup) ?_ (by with_unfolding_all rfl)
    refine getItem_tuple_back ht (Heap.IsSliceOf.new _ vl vu vs) pl pu ps ?_ (by omega)
    refine ⟨.ref _, _, I5.laid (t' := s4.toks) (o := .tup xs.reverse) (fun b ob q => Heap.get?_push_of_some _ q) (Nat.le_refl _) ?_, rfl, q _ (I5.hok.fresh (Nat.le_refl _))⟩
    exact ⟨by rw [List.length_reverse]; exact hz, _, r.reverse, IsTup.new _ _⟩
theorem k_rev (g : GoodX X) (ha : PE X ma (tB X.K G a)) : PE X (.Subscript ma (.Slice none none (some (.UnaryOp .USub (.Constant (.int 1) k p1) p2)) p3) pos) (tD X.K G (.b1 .rev a)) :=
  (pe_revA ha).imp fun σ H Q ⟨F, env, d, ok, hd, k⟩ => by
    obtain ⟨x, hx, hz⟩ := Option.bind_eq_some_iff.mp (show (bo env a (ev G env a)).bind _ = some d from hd)
    refine runB ok hx fun F1 H1 v x1 o1 r1 => ?_
    cases x <;> simp only [opU] at hz <;> (try cases hz)
    · rename_i xs
      obtain ⟨l, vs, rfl, e, r, z⟩ := r1.tup
      refine ⟨l, vs, rfl, .inr ⟨o1.le.tup e, fun p hp => ?_⟩⟩
      have rr := (r.reverse)
      exact Want.tup (fun F' H' w x2 l2 r2 => k F' H' w (x1.trans x2) l2 r2) o1.le rr (by simpa using z) hp
    · rename_i xs
      obtain ⟨l, vs, rfl, e, r, z⟩ := r1.lst o1.le
      refine ⟨l, vs, rfl, .inl ⟨e, fun p hp => ?_⟩⟩
      exact Want.lst (fun F' H' w x2 l2 r2 => k F' H' w (x1.trans x2) l2 r2) o1.le r.reverse (by simpa using z) hp
end
end Rx
end

section
set_option Elab.async false
set_option linter.all false
set_option maxRecDepth 100000
set_option maxHeartbeats 1000000
set_option autoImplicit false
/-! RxKit7: dict displays of one pair. -/
namespace Rx
open PySem PySem.Spec PyProof.Rows L2
section
variable {X : Cx} {G : Gm} {a b : E} {ma mb : Expr} {pos : Pos}
theorem kn_dic1 (g : GoodX X) (ha : PE X ma (tD X.K G a)) (hb : PE X mb (tD X.K G b)) : PE X (.Dict [some ma] [mb] pos) (tN X.K G (.dic1 false a b)) :=
  (pe_disp (pps_cons ha hb pps_nil) rfl rfl (by simp) (by simp)).imp fun σ H Q ⟨F, env, d, ok, hd, k⟩ p hp => by
    obtain ⟨x, hx, hz⟩ := Option.bind_eq_some_iff.mp (show (ev G env a).bind (fun x => (ev G env b).bind fun y => if isKey false x then some (D.dic false [(x, y)]) else none) = some d from hd)
    obtain ⟨y, hy, hz⟩ := Option.bind_eq_some_iff.mp hz
    have hk : isKey false x = true := Decidable.byContradiction fun n => by rw [if_neg n] at hz; cases hz
    rw [if_pos hk] at hz
    cases hz
    obtain ⟨i, rfl⟩ : ∃ i, x = .int i := by cases x <;> first | exact ⟨_, rfl⟩ | (exfalso; revert hk; simp [isKey])
    have ok1 : Ok X.K F (upd H p (.dK [])) σ env := ok.ext (Ext.made hp) (ok.le.made hp)
    show tD X.K G a σ (upd H p (.dK [])) _
    refine runD ok1 hx fun F1 H1 v x1 o1 r1 => ?_
    show tD X.K G b σ H1 _
    refine runD o1 hy fun F2 H2 u x2 o2 r2 => ?_
    have x12 := x1.trans x2
    have hp2 : H2 p = some (.dK []) := x12.h p _ upd_same
    have fp : F p = none := ok.le.free hp
    have fp2 : F2 p = none := by rw [x12.n p _ upd_same rfl]; exact fp
    obtain rfl : v = V.int i := r1
    refine ⟨hp2, [(Sum.inl i, u)], rfl, by simp, ?_⟩
    refine k F2 _ p ⟨x12.f, fun c w e => ?_, fun c w e z => ?_⟩ (fun c w e => ?_) hp fp2 ⟨_, upd_same, Sum.inl i, u, [], rfl, ⟨i, rfl, rfl⟩, r2, rfl⟩
    · have hc : c ≠ p := fun z => by rw [z, hp] at e; cases e
      rw [upd_ne hc]
      exact x12.h c w (by rw [upd_ne hc]; exact e)
    · have hc : c ≠ p := fun z => by rw [z, hp] at e; cases e
      exact x12.n c w (by rw [upd_ne hc]; exact e) z
    · have hc : c ≠ p := fun z => by rw [z, fp2] at e; cases e
      rw [upd_ne hc]
      exact o2.le c w e
end
end Rx
end

section
set_option Elab.async false
set_option linter.all false
set_option maxRecDepth 100000
set_option maxHeartbeats 2000000
set_option autoImplicit false
/-! RxKit8: zip of two and of three, lists and tuples. -/
namespace Rx
open PySem PySem.Spec PyProof.Rows L2
/-! ### a list (true) or a tuple (false) -/
def SqB (q : Bool) (K : PySem.W.Frag) (H : Hp) (a : Addr) (xs : List V) : Prop := if q = true then SqL K H a xs else SqT K H a xs
def SeqB (q : Bool) (h : Heap) (a : Addr) (its : Array Value) : Prop := if q = true then h.IsList a its else h.IsTuple a its
def ItB (q : Bool) (h : Heap) (it a : Addr) (i : Nat) : Prop := if q = true then h.IsListIter it a i else h.IsTupleIter it a i
def objB (q : Bool) (a : Addr) : Obj := if q = true then { cls := .type "list_iterator", data := .fields #[.ref a, .int 0 0] } else { cls := .type "tuple_iterator", data := .fields #[.ref a, .int 0 0] }
theorem ItB.there {q : Bool} {h : Heap} {it a : Addr} {i : Nat} (x : ItB q h it a i) : ∃ o, h.get? it = some o ∧ ∀ v, o.data ≠ .cell v := by
  cases q
  · obtain ⟨o, e, _, d⟩ := (show h.IsTupleIter it a i from x)
    exact ⟨o, e, fun v z => by rw [d] at z; cases z⟩
  · obtain ⟨o, e, _, d⟩ := (show h.IsListIter it a i from x)
    exact ⟨o, e, fun v z => by rw [d] at z; cases z⟩
theorem ItB.to {q : Bool} {h h' : Heap} {it a : Addr} {i : Nat} (x : ItB q h it a i) (k : ∀ o, h.get? it = some o → h'.get? it = some o) : ItB q h' it a i := by
  cases q
  · exact Heap.IsTupleIter.at (show h.IsTupleIter it a i from x) k
  · exact Heap.IsListIter.at (show h.IsListIter it a i from x) k
theorem objB_it {q : Bool} {h : Heap} {it a : Addr} (e : h.get? it = some (objB q a)) : ItB q h it a 0 := by
  cases q
  · exact ⟨_, e, rfl, rfl⟩
  · exact ⟨_, e, rfl, rfl⟩
theorem drawsB (q : Bool) {P : Program} {w : World} {A : Around} (hh : A.handled = none) (it a : Addr) (ne : a ≠ it) (its : Array Value) : Draws P w A it [it, a] its.size (fun i v => its[i]? = some v) (fun i h => ItB q h it a i ∧ SeqB q h a its) := by
  cases q
  · exact Draws.tuple hh it a ne its
  · exact Draws.list hh it a ne its
theorem beginB (q : Bool) (a : Addr) (its : Array Value) : Begins (.ref a) (objB q a) fun h => SeqB q h a its := by
  cases q
  · exact begins_tuple a its
  · exact begins_list a its
section
variable {X : Cx} {pins : List (Addr × Obj)} {σ : St} {H : Hp} {s : Shared} {a : Addr} {xs ys : List V} {q : Bool}
theorem inv_seqB (I : Inv X pins σ H s) (h : SqB q X.K H a xs) : ∃ its : List Value, Vals xs its ∧ SeqB q s.heap a its.toArray ∧ a < s.heap.objs.size := by
  cases q
  · obtain ⟨its, r, p, _⟩ := I.tuple (show SqT X.K H a xs from h)
    obtain ⟨o, e, _⟩ := id p
    exact ⟨its, r, p, Heap.lt_size e⟩
  · obtain ⟨its, r, p, _⟩ := I.list (show SqL X.K H a xs from h)
    exact ⟨its, r, p.isList, p.lt⟩
theorem inv_injB (I : Inv X pins σ H s) (h : SqB q X.K H a xs) (h' : SqB q X.K H a ys) : xs = ys := by
  cases q
  · exact I.tuple_inj h h'
  · exact I.list_inj h h'
end
/-! ### zip of two -/
/-- the pairs of what stands at a and at b -/
def ItzB (K : PySem.W.Frag) (q1 q2 : Bool) (a b : Addr) : It :=
  ⟨fun i H => ∃ (us vs : List V) (u v : V), SqB q1 K H a us ∧ SqB q2 K H b vs ∧ us[i]? = some u ∧ vs[i]? = some v,
    fun i H y H' => ∃ (T : Addr) (u v : V), y = .ref T ∧ H T = none ∧ H' = upd H T (.tup [u, v]) ∧ (∀ us, SqB q1 K H a us → us[i]? = some u) ∧ (∀ vs, SqB q2 K H b vs → vs[i]? = some v),
    fun i H => ∃ us vs : List V, SqB q1 K H a us ∧ SqB q2 K H b vs ∧ i = min us.length vs.length⟩
theorem sep2 {z TI TO j1 j2 a b : Addr} (Z : ZipApart z TI TO j1 j2 a b) : ZipSep2 z TI TO j1 j2 [j1, a] [j2, b] where
  TIz := Z.TIz
  TOz := Z.TOz
  TITO := Z.TITO
  TIi1 := Z.TIi1
  mem1 := by simp
  zf1 := by simp only [List.mem_cons, List.not_mem_nil, or_false, not_or]; exact ⟨Z.i1z.symm, Z.l1z.symm⟩
  Tf1 := by simp only [List.mem_cons, List.not_mem_nil, or_false, not_or]; exact ⟨Z.TOi1, Z.l1TO.symm⟩
  TIi2 := Z.TIi2
  mem2 := by simp
  zf2 := by simp only [List.mem_cons, List.not_mem_nil, or_false, not_or]; exact ⟨Z.i2z.symm, Z.l2z.symm⟩
  Tf2 := by simp only [List.mem_cons, List.not_mem_nil, or_false, not_or]; exact ⟨Z.TOi2, Z.l2TO.symm⟩
  sep1_2 := by simp only [List.mem_cons, List.not_mem_nil, or_false, not_or]; exact ⟨Z.i12, Z.l2i1.symm⟩
  sep2_1 := by simp only [List.mem_cons, List.not_mem_nil, or_false, not_or]; exact ⟨Z.i12.symm, Z.l1i2.symm⟩
theorem turnB2 {P : Program} {w : World} {K : PySem.W.Frag} {els : List Expr} {kk : Nat} {tpos : Pos} (q1 q2 : Bool) {a b z TI TO j1 j2 : Addr} (Z : ZipApart z TI TO j1 j2 a b) :
    Turn P w K (.Tuple els kk tpos) (ItzB K q1 q2 a b) [z, TI, TO, j1, j2] z (fun i h => IsZip h z TI TO .none ∧ IsTupOf2 h TI (.ref j1) (.ref j2) ∧ (∃ u v, IsTupOf2 h TO u v) ∧ ItB q1 h j1 a i ∧ ItB q2 h j2 b i) where
  mem := by simp
  obj := fun i h ⟨c1, c2, ⟨u, v, c3⟩, c4, c5⟩ c hc => by
    have hc : c = z ∨ c = TI ∨ c = TO ∨ c = j1 ∨ c = j2 := by simpa using hc
    rcases hc with rfl | rfl | rfl | rfl | rfl
    · exact ⟨_, c1, fun v y => nomatch y⟩
    · exact ⟨_, c2, fun v y => nomatch y⟩
    · exact ⟨_, c3, fun v y => nomatch y⟩
    · exact c4.there
    · exact c5.there
  keep := fun i h h' ⟨c1, c2, ⟨u, v, c3⟩, c4, c5⟩ k => ⟨k z (by simp) _ c1, k TI (by simp) _ c2, ⟨u, v, k TO (by simp) _ c3⟩, c4.to fun o y => k j1 (by simp) o y, c5.to fun o y => k j2 (by simp) o y⟩
  item := by
    intro X hP hw hK hc i pins s σ H E I hf ⟨c1, c2, ⟨u0, v0, c3⟩, c4, c5⟩ ⟨us, vs, u, v, m1, m2, g1, g2⟩
    subst hP hw hK
    obtain ⟨ks, r1, p1, _⟩ := inv_seqB I m1
    obtain ⟨ls, r2, p2, _⟩ := inv_seqB I m2
    obtain ⟨x, hx, rx⟩ := r1.get g1
    obtain ⟨y, hy, ry⟩ := r2.get g2
    have lz : z < s.heap.objs.size := Heap.lt_size c1
    have b1 : i < ks.toArray.size := by rw [List.size_toArray]; exact (List.getElem?_eq_some_iff.mp hx).1
    have b2 : i < ls.toArray.size := by rw [List.size_toArray]; exact (List.getElem?_eq_some_iff.mp hy).1
    refine wpAny_pyNext_zipD2_item (sep2 Z) (drawsB q1 (A := X.A.in1) (I.ok.hd hc) j1 a Z.l1i1 ks.toArray) (drawsB q2 (A := X.A.in1) (I.ok.hd hc) j2 b Z.l2i2 ls.toArray) c1 c2 c3 ⟨c4, p1⟩ ⟨c5, p2⟩ b1 b2 fun x' y' h' tk e1 e2 z1 o1 t1 t2 n1 hsz hk => ?_
    obtain rfl : x' = x := by
      have : ks.toArray[i]? = some x := by simpa using hx
      rw [this] at e1; exact (Option.some.inj e1).symm
    obtain rfl : y' = y := by
      have : ls.toArray[i]? = some y := by simpa using hy
      rw [this] at e2; exact (Option.some.inj e2).symm
    refine ⟨_, rfl, wpAny_letOwnedTupleGo_zip (s := { s with heap := h', toks := tk }) z1 fun h2 z2 sb => ?_⟩
    have nT : h2.get? s.heap.objs.size = some { cls := .type "tuple", data := .seq #[x', y'] } := (sb.2 _ (Nat.ne_of_gt lz)).trans n1
    have new : ObjOk X.prog X.w (upd H s.heap.objs.size (.tup [u, v])) h2 s.heap.objs.size (.tup [u, v]) := ⟨by show 2 ≤ sizeLine; decide, [x', y'], .cons rx (.cons ry .nil), ⟨_, nT, rfl, _, rfl⟩⟩
    have I1 : Inv X pins σ (upd H s.heap.objs.size (.tup [u, v])) { s with heap := h2, toks := tk } := I.turnedNew (t' := tk) (ch := [z, TI, TO, j1, j2]) (fun c o hb y => by
      simp only [List.mem_cons, List.not_mem_nil, or_false, not_or] at hb
      exact (sb.2 c hb.1).trans (hk c o hb.1 hb.2.2.1 hb.2.2.2.1 hb.2.2.2.2 y)) hf (Nat.le_refl _) new
    refine ⟨.ref s.heap.objs.size, _, I1, rfl, ⟨_, u, v, rfl, I.hok.fresh (Nat.le_refl _), rfl, fun l hl => by rw [inv_injB I hl m1]; exact g1, fun l hl => by rw [inv_injB I hl m2]; exact g2⟩, ⟨z2, (sb.2 _ Z.TIz).trans (hk _ _ Z.TIz Z.TITO Z.TIi1 Z.TIi2 c2), ⟨x', y', (sb.2 _ Z.TOz).trans o1⟩, t1.1.to fun o y => (sb.2 _ Z.i1z).trans y, t2.1.to fun o y => (sb.2 _ Z.i2z).trans y⟩, fun c hcm => ?_⟩
    have hlt : c < s.heap.objs.size := by
      have hcm : c = z ∨ c = TI ∨ c = TO ∨ c = j1 ∨ c = j2 := by simpa using hcm
      rcases hcm with rfl | rfl | rfl | rfl | rfl
      · exact lz
      · exact Heap.lt_size c2
      · exact Heap.lt_size c3
      · obtain ⟨_, y, _⟩ := c4.there; exact Heap.lt_size y
      · obtain ⟨_, y, _⟩ := c5.there; exact Heap.lt_size y
    rw [upd_ne (Nat.ne_of_lt hlt)]
    exact (hf c hcm).1
  done := by
    intro X hP hw hK hc i pins s σ H E I hf ⟨c1, c2, ⟨u0, v0, c3⟩, c4, c5⟩ ⟨us, vs, m1, m2, hi⟩
    subst hP hw hK
    obtain ⟨ks, r1, p1, _⟩ := inv_seqB I m1
    obtain ⟨ls, r2, p2, _⟩ := inv_seqB I m2
    have l1 : ks.toArray.size = us.length := by rw [List.size_toArray, r1.length]
    have l2 : ls.toArray.size = vs.length := by rw [List.size_toArray, r2.length]
    exact wpAny_pyNext_zipD2_end (sep2 Z) (drawsB q1 (A := X.A.in1) (I.ok.hd hc) j1 a Z.l1i1 ks.toArray) (drawsB q2 (A := X.A.in1) (I.ok.hd hc) j2 b Z.l2i2 ls.toArray) c1 c2 c3 ⟨c4, p1⟩ ⟨c5, p2⟩ (by omega) (by omega) (by omega) fun h' tk hk => ⟨rfl, I.turnedL (t' := tk) (ch := [z, TI, TO, j1, j2]) (fun c o hb y => by
      simp only [List.mem_cons, List.not_mem_nil, or_false, not_or] at hb
      exact hk c o hb.1 hb.2.2.1 hb.2.2.2.1 hb.2.2.2.2 y) hf⟩
  self := fun A i s Q E c h => wpAny_pyIter_zip c.1 h
def iZipB (K : PySem.W.Frag) (ta : TA) : TI := fun σ H R => ta σ H fun vs H1 => ∃ (q1 q2 : Bool) (a b : Addr) (xs ys : List V), vs = [.ref a, .ref b] ∧ SqB q1 K H1 a xs ∧ SqB q2 K H1 b ys ∧ R (ItzB K q1 q2 a b) H1
theorem pi_zipB {X : Cx} {m1 m2 : Expr} {ta : TA} {p pos tpos : Pos} {els : List Expr} {kk : Nat} (hg : Gl X "zip") (hm : X.mg "zip" = none) (ha : PA X [m1, m2] ta)
    (hs : starEach [m1, m2] X.env = (false, eval m1 X.env) :: starEach [m2] X.env) (hpl : (backTo pos (starEach [m2] X.env)).any (·.1) = false) : PI X (.Tuple els kk tpos) (.Call (.Name "zip" p) [m1, m2] [] pos) (iZipB X.K ta) := by
  refine ⟨fun pins s σ H R I h => ?_⟩
  refine Call_ (ld_blt I hg hm PyProof.Rows.boot_zip (PyProof.Rows.callWith_type1 (thn (ha.run pos pins s σ H _ I h) fun us s1 ⟨vs, H1, I1, r1, q1, q2, a, b, xs, ys, ex, m1, m2, q⟩ => ?_) hs hpl))
  subst ex
  cases r1 with
  | cons r rr =>
    cases rr with
    | cons r' rr =>
      cases rr
      cases r
      cases r'
      obtain ⟨ks, _, p1, la⟩ := inv_seqB I1 m1
      obtain ⟨ls, _, p2, lb⟩ := inv_seqB I1 m2
      refine zip_begins2 (beginB q1 a ks.toArray) (beginB q2 b ls.toArray) p1 p2 fun h' hz hTI hTO g1 g2 hsz hk => wpAny_pyIter_zip hz ?_
      have I2 : Inv X pins σ H1 { s1 with heap := h' } := I1.kept (t' := s1.toks) hk
      refine ⟨s1.heap.objs.size + 4, [s1.heap.objs.size + 4, s1.heap.objs.size + 2, s1.heap.objs.size + 3, s1.heap.objs.size, s1.heap.objs.size + 1], _, _, H1, rfl, I2, turnB2 q1 q2 (PySem.W.ktu_apart s1.heap.objs.size a b la lb), ⟨hz, hTI, ⟨_, _, hTO⟩, objB_it g1, objB_it g2⟩, fun c hcm => ?_, q⟩
      have hle : s1.heap.objs.size ≤ c := by
        have hcm : c = s1.heap.objs.size + 4 ∨ c = s1.heap.objs.size + 2 ∨ c = s1.heap.objs.size + 3 ∨ c = s1.heap.objs.size ∨ c = s1.heap.objs.size + 1 := by simpa using hcm
        rcases hcm with y | y | y | y | y
        · rw [y]; exact Nat.le_add_right _ _
        · rw [y]; exact Nat.le_add_right _ _
        · rw [y]; exact Nat.le_add_right _ _
        · rw [y]; exact Nat.le_refl _
        · rw [y]; exact Nat.le_add_right _ _
      exact I1.fpOk hle (I1.hok.fresh hle)
abbrev isLD (x : D) : Bool := match x with | .lst _ => true | _ => false
section
variable {K : PySem.W.Frag} {S : Hp → Hp → Prop}
theorem stays_seqB {F H : Hp} {x : D} {xs : List D} {v : V} (hx : x.seq? = some xs) (l : FLe F H) (r : RepB K F H x v) : ∃ (a : Addr) (vs : List V), v = .ref a ∧ SqB (isLD x) K H a vs ∧ RepL K F xs vs := by
  rcases seq_some hx with rfl | rfl
  · obtain ⟨a, vs, rfl, ea, ra, _⟩ := r.tup
    exact ⟨a, vs, rfl, SqT.of (l.tup ea), ra⟩
  · obtain ⟨a, vs, rfl, ea, ra, _⟩ := r.lst l
    exact ⟨a, vs, rfl, SqL.of ea, ra⟩
theorem walk_zipB {x y : D} {xs ys : List D} {a b : Addr} (hx : x.seq? = some xs) (hy : y.seq? = some ys) (h1 : Stays K S x (.ref a)) (h2 : Stays K S y (.ref b)) : WalkD K S ((xs.zip ys).map fun p => .tup [p.1, p.2]) (ItzB K (isLD x) (isLD y) a b) where
  go := fun i F H s hi => by
    obtain ⟨l, r1⟩ := h1 F H s
    obtain ⟨_, r2⟩ := h2 F H s
    obtain ⟨_, us, e1, m1, g1⟩ := stays_seqB hx l r1
    obtain ⟨_, vs, e2, m2, g2⟩ := stays_seqB hy l r2
    cases e1
    cases e2
    have k1 := g1.length
    have k2 := g2.length
    simp only [List.length_map, List.length_zip] at hi
    exact ⟨us, vs, us[i]'(by omega), vs[i]'(by omega), m1, m2, by simp, by simp⟩
  stop := fun F H s => by
    obtain ⟨l, r1⟩ := h1 F H s
    obtain ⟨_, r2⟩ := h2 F H s
    obtain ⟨_, us, e1, m1, g1⟩ := stays_seqB hx l r1
    obtain ⟨_, vs, e2, m2, g2⟩ := stays_seqB hy l r2
    cases e1
    cases e2
    exact ⟨us, vs, m1, m2, by rw [List.length_map, List.length_zip, g1.length, g2.length]⟩
  yld := fun i F H v H' s hi ⟨T, u, w, e1, n, e2, y1, y2⟩ => by
    obtain ⟨l, r1⟩ := h1 F H s
    obtain ⟨_, r2⟩ := h2 F H s
    obtain ⟨_, us, ex1, m1, g1⟩ := stays_seqB hx l r1
    obtain ⟨_, vs, ex2, m2, g2⟩ := stays_seqB hy l r2
    cases ex1
    cases ex2
    subst e1 e2
    obtain ⟨d, hd, rd⟩ := g1.get' (y1 us m1)
    obtain ⟨e, he, re⟩ := g2.get' (y2 vs m2)
    obtain ⟨F', x1, l1, rr⟩ := yld_pair l n rd re
    exact ⟨F', _, x1, l1, by rw [List.getElem?_map, List.getElem?_zip_eq_some (z := (d, e)) |>.mpr ⟨hd, he⟩]; rfl, rr⟩
end
section
variable {X : Cx} {G : Gm} {fr : Bool} {a b c : E} {ma mb mc : Expr} {pos pp tpos : Pos} {els : List Expr} {kk : Nat}
theorem kw_zip2 (g : GoodX X) (ha : PA X [ma, mb] (tM fr X.K G [a, b])) (hg : Gl X "zip" := by rfl) (hs : starEach [ma, mb] X.env = (false, eval ma X.env) :: starEach [mb] X.env := by rfl) (hpl : (backTo pos (starEach [mb] X.env)).any (·.1) = false := by rfl) :
    PI X (.Tuple els kk tpos) (.Call (.Name "zip" pp) [ma, mb] [] pos) (tI fr X.K G .zip2 [a, b]) :=
  (pi_zipB hg (g.bl _ (by decide +kernel)) ha hs hpl).imp fun σ H R ⟨F, env, vs, xs, o, hv, hw, k⟩ => by
    refine runM o hv fun F1 H1 ws x1 o1 st r1 => ?_
    rcases vs with _ | ⟨x, _ | ⟨y, _ | ⟨_, _⟩⟩⟩ <;> (try simp only [walk] at hw) <;> try cases hw
    obtain ⟨ds, hd, hw⟩ := Option.bind_eq_some_iff.mp hw
    obtain ⟨es, he, rfl⟩ := Option.map_eq_some_iff.mp hw
    obtain ⟨v, r', rfl, r1, u, r'', rfl, r2, ex⟩ := r1
    cases ex
    obtain ⟨_, _, ew, s1, _, _, ew2, s2, _⟩ := st
    cases ew
    cases ew2
    obtain ⟨l1, us, rfl, m1, _⟩ := stays_seqB hd o1.le r1
    obtain ⟨l2, vs, rfl, m2, _⟩ := stays_seqB he o1.le r2
    exact ⟨_, _, l1, l2, us, vs, rfl, m1, m2, k _ _ _ x1 o1.le (walk_zipB hd he s1 s2)⟩
end
end Rx
end

section
set_option Elab.async false
set_option linter.all false
set_option maxRecDepth 100000
set_option maxHeartbeats 2000000
set_option autoImplicit false
/-! RxKit9: d.get(k), d.get(k, x); for k in d. -/
namespace Rx
open PySem PySem.Spec PyProof.Rows L2
section
variable {X : Cx} {G GI : Gm} {a b c : E} {ma mb mc : Expr} {pos apos pp : Pos}
theorem got_of {K : PySem.W.Frag} {F : Hp} {od : Option D} {o : Option V} (h : RelG K F od o) : Rep K F (od.getD .non) (o.getD .non) := by
  cases od <;> cases o <;> first | exact h | exact False.elim h | rfl
theorem got_or {K : PySem.W.Frag} {F : Hp} {od : Option D} {o : Option V} {d : D} {v : V} (h : RelG K F od o) (r : Rep K F d v) : Rep K F (od.getD d) (o.getD v) := by
  cases od <;> cases o <;> first | exact h | exact False.elim h | exact r
theorem k_get (g : GoodX X) (ha : PE X ma (tB X.K G a)) (hb : PE X mb (tD X.K G b)) (m : M1 X ma "get" apos mb pos := by exact ⟨rfl, rfl, rfl, rfl⟩) : PE X (.Call (.Attribute ma "get" apos) [mb] [] pos) (tD X.K G (.b2 .get a b)) :=
  (pe_dget1 (by have := g.hu; omega) ha hb m).imp fun σ H Q ⟨F, env, d, ok, hd, k⟩ => by
    obtain ⟨x, hx, hd⟩ := Option.bind_eq_some_iff.mp (show (bo env a (ev G env a)).bind _ = some d from hd)
    obtain ⟨y, hy, hd⟩ := Option.bind_eq_some_iff.mp hd
    have key : ∃ t kvs, x = .dic t kvs := by cases x <;> first | exact ⟨_, _, rfl⟩ | cases hd
    obtain ⟨t, kvs, rfl⟩ := key
    have hd : (if isKey t y = true then some ((D.get kvs y).getD .non) else none) = some d := hd
    have hk : isKey t y = true := Decidable.byContradiction fun n => by rw [if_neg n] at hd; cases hd
    rw [if_pos hk] at hd
    cases hd
    refine runB ok hx fun F1 H1 v x1 o1 r1 => ?_
    have hD : ∃ p, v = .ref p ∧ IsD H1 p := by
      cases t with
      | false => obtain ⟨p, ws, rfl, e, _⟩ := r1.dicK o1.le; exact ⟨p, rfl, .inl ⟨ws, e⟩⟩
      | true => obtain ⟨p, ws, rfl, e, _⟩ := r1.dicT o1.le; exact ⟨p, rfl, .inr ⟨ws, e⟩⟩
    obtain ⟨p, rfl, hD⟩ := hD
    refine ⟨p, rfl, hD, runD o1 hy fun F2 H2 u x2 o2 r2 => ?_⟩
    obtain ⟨p', o, e, dg, rg, _⟩ := dget_of o2.le hk (r1.ext x2) (.inl r2)
    cases e
    exact ⟨o, dg, k F2 H2 _ (x1.trans x2) o2.le (got_of rg)⟩
theorem k_get2 (g : GoodX X) (ha : PE X ma (tB X.K G a)) (hb : PE X mb (tD X.K G b)) (hc : PE X mc (tD X.K G c)) (m : M2 X ma "get" apos mb mc pos := by exact ⟨rfl, rfl, rfl, rfl⟩) : PE X (.Call (.Attribute ma "get" apos) [mb, mc] [] pos) (tD X.K G (.get2 a b c)) :=
  (pe_dget2 (by have := g.hu; omega) ha hb hc m).imp fun σ H Q ⟨F, env, d, ok, hd, k⟩ => by
    obtain ⟨x, hx, hd⟩ := Option.bind_eq_some_iff.mp (show (bo env a (ev G env a)).bind _ = some d from hd)
    obtain ⟨y, hy, hd⟩ := Option.bind_eq_some_iff.mp hd
    obtain ⟨z, hz, hd⟩ := Option.bind_eq_some_iff.mp hd
    have key : ∃ t kvs, x = .dic t kvs := by cases x <;> first | exact ⟨_, _, rfl⟩ | cases hd
    obtain ⟨t, kvs, rfl⟩ := key
    have hd : (if isKey t y = true then some ((D.get kvs y).getD z) else none) = some d := hd
    have hk : isKey t y = true := Decidable.byContradiction fun n => by rw [if_neg n] at hd; cases hd
    rw [if_pos hk] at hd
    cases hd
    refine runB ok hx fun F1 H1 v x1 o1 r1 => ?_
    have hD : ∃ p, v = .ref p ∧ IsD H1 p := by
      cases t with
      | false => obtain ⟨p, ws, rfl, e, _⟩ := r1.dicK o1.le; exact ⟨p, rfl, .inl ⟨ws, e⟩⟩
      | true => obtain ⟨p, ws, rfl, e, _⟩ := r1.dicT o1.le; exact ⟨p, rfl, .inr ⟨ws, e⟩⟩
    obtain ⟨p, rfl, hD⟩ := hD
    refine ⟨p, rfl, hD, runD o1 hy fun F2 H2 u x2 o2 r2 => runD o2 hz fun F3 H3 w x3 o3 r3 => ?_⟩
    obtain ⟨p', o, e, dg, rg, _⟩ := dget_of o3.le hk ((r1.ext x2).ext x3) (.inl (r2.mono x3.f))
    cases e
    exact ⟨o, dg, k F3 H3 _ ((x1.trans x2).trans x3) o3.le (got_or rg r3)⟩
end
/-! ### for k in d, the dict locked meanwhile -/
section
variable {mk : Prop} {K : PySem.W.Frag} {F H F' H' : Hp} {σ σ' : St} {env env' : Env} {p : Addr} {u : HO} {od : Obj}
theorem Reach.unlock (hF : F p = some u) (hH : H p = some u) (n : ¬ Own σ env p) (s : Reach F (upd H p (.frz od u)) σ env F' H') : H' p = some (.frz od u) ∧ Reach F H σ env F' (upd H' p u) := by
  refine ⟨s.h p _ upd_same n, s.f, fun c w e nn => ?_, fun c w e z nn => ?_, fun c w e => ?_⟩
  · by_cases hc : c = p
    · subst hc; rw [upd_same]; rw [hH] at e; exact e
    · rw [upd_ne hc]; exact s.h c w (by rw [upd_ne hc]; exact e) nn
  · by_cases hc : c = p
    · subst hc; rw [s.f _ _ hF, hF]
    · exact s.n c w (by rw [upd_ne hc]; exact e) z nn
  · by_cases hc : c = p
    · subst hc
      rw [s.f _ _ hF] at e
      left
      rw [upd_same]; exact e
    · rw [upd_ne hc]; exact s.le c w e
theorem Step.unlock (hF : F p = some u) (hH : H p = some u) (n : ¬ Own σ env p) (s : Step mk K F (L2.upd H p (.frz od u)) σ env F' H' σ' env') : H' p = some (.frz od u) ∧ Step mk K F H σ env F' (L2.upd H' p u) σ' env' := by
  obtain ⟨h1, h2⟩ := s.re.unlock hF hH n
  refine ⟨h1, h2, ⟨h2.le, s.ok.en.len, s.ok.en.val, fun i d e => ?_, s.ok.en.sep⟩, fun c z => ?_⟩
  · obtain ⟨q, g1, g2, g3⟩ := s.ok.en.own i d e
    have hq : q ≠ p := fun z => by rw [z, s.re.f _ _ hF] at g2; cases g2
    exact ⟨q, g1, g2, g3.mono (.refl _) fun w y => by rw [upd_ne hq]; exact y⟩
  · rcases s.ow c z with g | ⟨g, m⟩
    · exact .inl g
    · have hc : c ≠ p := fun z => by rw [z, upd_same] at g; cases g
      rw [upd_ne hc] at g
      exact .inr ⟨g, m⟩
theorem own_not (o : Ok K F H σ env) (hF : F p = some u) : ¬ Own σ env p := fun ⟨i, d, h1, h2⟩ => by
  obtain ⟨q, g1, g2, _⟩ := o.en.own i d h1
  rw [h2] at g1
  cases g1
  rw [hF] at g2; cases g2
theorem Ok.lock (o : Ok K F H σ env) (hF : F p = some u) (hd : isDic u = true) : Ok K F (upd H p (.frz od u)) σ env := by
  refine ⟨fun c w e => ?_, o.en.len, o.en.val, fun i d e => ?_, o.en.sep⟩
  · by_cases hc : c = p
    · subst hc
      rw [hF] at e
      cases e
      exact .inr ⟨hd, od, upd_same⟩
    · rw [upd_ne hc]; exact o.le c w e
  · obtain ⟨q, g1, g2, g3⟩ := o.en.own i d e
    have hq : q ≠ p := fun z => by rw [z, hF] at g2; cases g2
    exact ⟨q, g1, g2, g3.mono (.refl _) fun w y => by rw [upd_ne hq]; exact y⟩
theorem Post.lock {r : Fl × Env} {D : Ends} (hF : F p = some u) (hH : H p = some u) (n : ¬ Own σ env p) (q : Post mk K F H σ env r D) :
    Post mk K F (upd H p (.frz od u)) σ env r ⟨fun σ' H' => H' p = some (.frz od u) ∧ D.nx σ' (upd H' p u), fun v H' => H' p = some (.frz od u) ∧ D.rt v (upd H' p u), fun σ' H' => H' p = some (.frz od u) ∧ D.bk σ' (upd H' p u), fun σ' H' => H' p = some (.frz od u) ∧ D.ct σ' (upd H' p u)⟩ := by
  obtain ⟨f, e'⟩ := r
  cases f with
  | nx => exact fun F' H' σ' s => let ⟨h1, h2⟩ := s.unlock hF hH n; ⟨h1, q F' _ σ' h2⟩
  | brk => exact fun F' H' σ' s => let ⟨h1, h2⟩ := s.unlock hF hH n; ⟨h1, q F' _ σ' h2⟩
  | rt d => exact fun F' H' v s w => let ⟨h1, h2⟩ := s.unlock hF hH n; ⟨h1, q F' _ v h2 w⟩
/-- wherever the dict at p stands locked -/
def SK (F : Hp) (p : Addr) (u : HO) (od : Obj) : Hp → Hp → Prop := fun F1 H1 => FMono F F1 ∧ FLe F1 H1 ∧ H1 p = some (.frz od u)
theorem repK_get : ∀ {kvs : List (D × D)} {ws : List (Key × V)} {i : Nat} {k : Key} {v : V}, RepK K F kvs ws → ws[i]? = some (k, v) → ∃ d x, kvs[i]? = some (d, x) ∧ KeyI d k
  | [], _, i, _, _, h, e => by cases h; simp at e
  | (d, x) :: r, _, 0, _, _, h, e => by
    obtain ⟨k', v', r', rfl, hk, _, _⟩ := h
    simp at e
    obtain ⟨rfl, rfl⟩ := e
    exact ⟨d, x, rfl, hk⟩
  | (d, x) :: r, _, i + 1, _, _, h, e => by
    obtain ⟨k', v', r', rfl, hk, _, h⟩ := h
    simp at e
    obtain ⟨d', x', e1, e2⟩ := repK_get h e
    exact ⟨d', x', by simpa using e1, e2⟩
theorem repT_get : ∀ {kvs : List (D × D)} {ws : List (List Key × V)} {i : Nat} {k : List Key} {v : V}, RepT K F kvs ws → ws[i]? = some (k, v) → ∃ d x, kvs[i]? = some (d, x) ∧ KeyT d k
  | [], _, i, _, _, h, e => by cases h; simp at e
  | (d, x) :: r, _, 0, _, _, h, e => by
    obtain ⟨k', v', r', rfl, hk, _, _⟩ := h
    simp at e
    obtain ⟨rfl, rfl⟩ := e
    exact ⟨d, x, rfl, hk⟩
  | (d, x) :: r, _, i + 1, _, _, h, e => by
    obtain ⟨k', v', r', rfl, hk, _, h⟩ := h
    simp at e
    obtain ⟨d', x', e1, e2⟩ := repT_get h e
    exact ⟨d', x', by simpa using e1, e2⟩
theorem walk_keysK {kvs : List (D × D)} {ws : List (Key × V)} (r : RepK K F kvs ws) : WalkD K (SK F p (.dK ws) od) (kvs.map (·.1)) (Itk p od ws) where
  go := fun i F1 H1 s hi => ⟨s.2.2, by rw [r.len]; simpa using hi⟩
  stop := fun F1 H1 s => ⟨s.2.2, by rw [r.len]; simp⟩
  yld := fun i F1 H1 x H2 s hi ⟨e, k, v, hw, ex⟩ => by
    subst e ex
    obtain ⟨d, y, h1, j, rfl, rfl⟩ := repK_get r hw
    exact ⟨F1, .int j, .refl _ _, s.2.1, by rw [List.getElem?_map, h1]; rfl, rfl⟩
theorem walk_keysT {kvs : List (D × D)} {ws : List (List Key × V)} (r : RepT K F kvs ws) : WalkD K (SK F p (.dT ws) od) (kvs.map (·.1)) (Itkt p od ws) where
  go := fun i F1 H1 s hi => ⟨s.2.2, by rw [r.len]; simpa using hi⟩
  stop := fun F1 H1 s => ⟨s.2.2, by rw [r.len]; simp⟩
  yld := fun i F1 H1 x H2 s hi ⟨e, k, v, q, hw, ex, hq⟩ => by
    subst e ex
    obtain ⟨d, y, h1, ns, rfl, rfl, hl⟩ := repT_get r hw
    have old : ∀ w, F1 q = some w → w = .tup ((ns.map Sum.inl).map kV) := fun w e => by
      rcases s.2.1 q w e with z | ⟨_, _, z⟩
      · rw [hq] at z; exact (Option.some.inj z).symm
      · rw [hq] at z; cases z
    refine ⟨upd F1 q (.tup ((ns.map Sum.inl).map kV)), .tup (ns.map .int), ⟨fun c w e => ?_, fun _ _ e => e, fun c w e z => ?_⟩, fun c w e => ?_, by rw [List.getElem?_map, h1]; rfl, q, _, rfl, upd_same, ?_, by simpa using hl⟩
    · by_cases hc : c = q
      · subst hc; rw [upd_same, old w e]
      · rw [upd_ne hc]; exact e
    · have hc : c ≠ q := fun y => by rw [y, hq] at e; cases e; cases z
      rw [upd_ne hc]
    · by_cases hc : c = q
      · subst hc
        rw [upd_same] at e
        cases e
        exact .inl hq
      · rw [upd_ne hc] at e; exact s.2.1 c w e
    · rw [List.map_map]
      exact RepL.ofInts ns
end
section
variable {X : Cx} {G GI : Gm} {K : PySem.W.Frag} {F H : Hp} {σ : St} {env : Env} {t : T} {bs : List S} {kl : List Nat} {r : Fl × Env} {En : Ends}
/-- a loop over what J hands out -/
theorem for_any {J : It} {Sx : Hp → Hp → Prop} {xs : List D} (o : Ok K F H σ env) (W : WalkD K Sx xs J) (hS : ∀ F2 H2 σ2 env2, Step (mkSs bs = true) K F H σ env F2 H2 σ2 env2 → Sx F2 H2)
    (hx : forL (fun x e => (bind t x e).bind fun e' => exs G GI e' bs) kl xs env = some r) (p : Post (mkSs bs = true) K F H σ env r En) :
    ∃ Y : Nat → Nat → St → Hp → Prop, (∃ m, Y 0 m σ H) ∧ ∀ i m σ H, Y i m σ H → (J.stop i H ∧ En.nx σ H) ∨ (J.go i H ∧ ∃ N : St → Hp → Prop, (∀ σ' H', N σ' H' → ∃ m', m' < m ∧ Y (i + 1) m' σ' H') ∧
      ∀ x H', J.yld i H x H' → tG K t x σ H' fun σ2 H2 => tSs K G GI bs { En with nx := N, ct := N, bk := En.nx } σ2 H2) := by
  refine ⟨fun i m σ2 H2 => m = xs.length - i ∧ i ≤ xs.length ∧ ∃ F2 env2, Step (mkSs bs = true) K F H σ env F2 H2 σ2 env2 ∧ forL (fun x e => (bind t x e).bind fun e' => exs G GI e' bs) kl (xs.drop i) env2 = some r, ⟨xs.length, by simp, Nat.zero_le _, F, env, .refl o, hx⟩, ?_⟩
  rintro i m σ2 H2 ⟨rfl, hi, F2, env2, s2, h2⟩
  have hs2 := hS F2 H2 σ2 env2 s2
  by_cases hlt : i < xs.length
  · refine .inr ⟨W.go i F2 H2 hs2 hlt, fun σ' H' => ∃ F' env', Step (mkSs bs = true) K F H σ env F' H' σ' env' ∧ forL (fun x e => (bind t x e).bind fun e' => exs G GI e' bs) kl (xs.drop (i + 1)) env' = some r, fun σ' H' n => ⟨xs.length - (i + 1), by omega, rfl, hlt, n⟩, fun x H' y => ?_⟩
    obtain ⟨F3, d, x3, l3, hd, rd⟩ := W.yld i F2 H2 x H' hs2 hlt y
    have s3 : Step (mkSs bs = true) K F H σ env F3 H' σ2 env2 := s2.trans ⟨.of_ext x3 l3, s2.ok.ext x3 l3, fun _ h => .inl h⟩
    have e1 : xs.drop i = d :: xs.drop (i + 1) := by
      rw [List.getElem?_eq_getElem hlt] at hd
      cases hd
      exact List.drop_eq_getElem_cons hlt
    rw [e1] at h2
    obtain ⟨r1, hr1, h2⟩ := Option.bind_eq_some_iff.mp (show ((bind t d env2).bind fun e' => exs G GI e' bs).bind _ = some r from h2)
    obtain ⟨env3, hb3, hr1⟩ := Option.bind_eq_some_iff.mp hr1
    refine ⟨F3, env2, d, env3, s3.ok, rd, hb3, fun σ3 o3 _ sm => ?_⟩
    have s4 : Step (mkSs bs = true) K F H σ env F3 H' σ3 env3 := s3.trans ⟨.refl l3, o3, fun a ⟨j, e, q1, q2⟩ => by
      obtain ⟨q3, n1⟩ := bind_own t d hb3 q1
      rw [sm j n1] at q2
      exact .inl ⟨j, e, q3, q2⟩⟩
    refine ⟨F3, env3, r1, o3, hr1, ?_⟩
    obtain ⟨f, e1⟩ := r1
    cases f with
    | nx => exact fun F' H' σ' s => ⟨F', _, (s4.trans s).trans (.kill s.ok kl), h2⟩
    | brk => cases h2; exact fun F' H' σ' s => p F' H' σ' ((s4.trans s).trans (.kill s.ok kl))
    | rt d => cases h2; exact fun F' H' v q w => p F' H' v (s4.reach q) w
  · have e : i = xs.length := by omega
    subst e
    rw [List.drop_of_length_le (Nat.le_refl _)] at h2
    cases h2
    exact .inl ⟨W.stop F2 H2 hs2, p F2 H2 σ2 (s2.trans (.kill s2.ok kl))⟩
theorem forK_core {i : Nat} {a : Addr} {u : HO} {od : Obj} {kvs : List (D × D)} (o : Ok K F H σ env) (hF : F a = some u) (hL : H a = some (.frz od u)) (hi : σ[i]? = some (some (.ref a)))
    (hk : (∃ ws, u = .dK ws ∧ RepK K F kvs ws) ∨ ∃ ws, u = .dT ws ∧ RepT K F kvs ws) (hx : forL (fun x e => (bind t x e).bind fun e' => exs G GI e' bs) kl (kvs.map (·.1)) env = some r) (p : Post (mkSs bs = true) K F H σ env r En) :
    tFor (iKeys (L2.tVar i)) (tG K t) (tSs K G GI bs) En σ H := by
  have hS : ∀ F2 H2 σ2 env2, Step (mkSs bs = true) K F H σ env F2 H2 σ2 env2 → SK F a u od F2 H2 := fun F2 H2 σ2 env2 s => ⟨s.re.f, s.re.le, s.re.h a _ hL (own_not o hF)⟩
  refine ⟨.ref a, hi, a, od, rfl, ?_⟩
  rcases hk with ⟨ws, rfl, rr⟩ | ⟨ws, rfl, rr⟩
  · exact .inl ⟨ws, hL, for_any o (walk_keysK rr) hS hx p⟩
  · exact .inr ⟨ws, hL, for_any o (walk_keysT rr) hS hx p⟩
theorem ks_forK {i : Nat} {y : Str} {pp pos : Pos} {tg : Expr} {mbs : List Stmt} (hp : PassesOwn (model X.prog X.w) X.A X.env X.xe) (g : GoodX X) (hv : PE X (.Name y pp) (L2.tVar i)) (hg : PG X tg (tG X.K t)) (hb : PSs X mbs (tSs X.K G GI bs))
    (hs : ∀ x, foldedSetIterable (.Name y pp) X.env x = pure x := by intro _; rfl) : PS X (.For tg (.Name y pp) mbs [] pos) (tS X.K G GI (.for_ t .keys [.var i] bs kl)) :=
  ((ps_for hp g.calm (pi_keys hv) hg hb hs).or (ps_lock (ps_for hp g.calm (pi_keys hv) hg hb hs))).imp fun D σ H ⟨F, env, r, o, hx, p⟩ => by
    obtain ⟨vs, hvs, hx⟩ := Option.bind_eq_some_iff.mp (show (evL G env [.var i]).bind _ = some r from hx)
    obtain ⟨xs, hw, hx⟩ := Option.bind_eq_some_iff.mp hx
    obtain ⟨d, hd, hvs⟩ := Option.bind_eq_some_iff.mp (show (env.val i).bind _ = some vs from hvs)
    cases hvs
    have key : ∃ t kvs, d = .dic t kvs := by cases d <;> first | exact ⟨_, _, rfl⟩ | cases hw
    obtain ⟨tk, kvs, rfl⟩ := key
    have hw : some (kvs.map (·.1)) = some xs := hw
    cases hw
    obtain ⟨v, hi, rv⟩ := o.en.val i _ (val_some hd)
    have key : ∃ (a : Addr) (u : HO), v = .ref a ∧ F a = some u ∧ isDic u = true ∧ Mut (some u) ∧ ((∃ ws, u = .dK ws ∧ RepK X.K F kvs ws) ∨ ∃ ws, u = .dT ws ∧ RepT X.K F kvs ws) := by
      cases tk with
      | false => obtain ⟨a, ws, rfl, e, rr⟩ := rv; exact ⟨a, _, rfl, e, rfl, True.intro, .inl ⟨ws, rfl, rr⟩⟩
      | true => obtain ⟨a, ws, rfl, e, rr⟩ := rv; exact ⟨a, _, rfl, e, rfl, True.intro, .inr ⟨ws, rfl, rr⟩⟩
    obtain ⟨a, u, rfl, hF, hdic, mu, hk⟩ := key
    rcases o.le a u hF with hH | ⟨_, od, hL⟩
    · exact .inr ⟨a, u, hH, mu, fun od => forK_core (o.lock hF hdic) hF upd_same hi hk hx (p.lock hF hH (own_not o hF))⟩
    · exact .inl (forK_core o hF hL hi hk hx p)
end
end Rx
end

section
set_option Elab.async false
set_option linter.all false
set_option maxRecDepth 100000
set_option maxHeartbeats 2000000
set_option autoImplicit false
/-! RxKit10: zip of three; range(n) as a value; calls that are lent what names own; [.. for k in d]. -/
namespace Rx
open PySem PySem.Spec PyProof.Rows L2
/-! ### zip of three -/
def It3B (K : PySem.W.Frag) (q1 q2 q3 : Bool) (a b c : Addr) : It :=
  ⟨fun i H => ∃ (us vs ws : List V) (u v w : V), SqB q1 K H a us ∧ SqB q2 K H b vs ∧ SqB q3 K H c ws ∧ us[i]? = some u ∧ vs[i]? = some v ∧ ws[i]? = some w,
    fun i H y H' => ∃ (T : Addr) (u v w : V), y = .ref T ∧ H T = none ∧ H' = upd H T (.tup [u, v, w]) ∧ (∀ us, SqB q1 K H a us → us[i]? = some u) ∧ (∀ vs, SqB q2 K H b vs → vs[i]? = some v) ∧ (∀ ws, SqB q3 K H c ws → ws[i]? = some w),
    fun i H => ∃ us vs ws : List V, SqB q1 K H a us ∧ SqB q2 K H b vs ∧ SqB q3 K H c ws ∧ i = min us.length (min vs.length ws.length)⟩
theorem turnB3 {P : Program} {w : World} {K : PySem.W.Frag} {els : List Expr} {kk : Nat} {tpos : Pos} (q1 q2 q3 : Bool) {a b c z TI TO j1 j2 j3 : Addr} (Z : ZipSep3 z TI TO j1 j2 j3 [j1, a] [j2, b] [j3, c]) (na : a ≠ j1) (nb : b ≠ j2) (nc : c ≠ j3) :
    Turn P w K (.Tuple els kk tpos) (It3B K q1 q2 q3 a b c) [z, TI, TO, j1, j2, j3] z (fun i h => IsZip h z TI TO .none ∧ IsTupOf3 h TI (.ref j1) (.ref j2) (.ref j3) ∧ (∃ u v w, IsTupOf3 h TO u v w) ∧ ItB q1 h j1 a i ∧ ItB q2 h j2 b i ∧ ItB q3 h j3 c i) where
  mem := by simp
  obj := fun i h ⟨c1, c2, ⟨u, v, w, c3⟩, c4, c5, c6⟩ c hc => by
    have hc : c = z ∨ c = TI ∨ c = TO ∨ c = j1 ∨ c = j2 ∨ c = j3 := by simpa using hc
    rcases hc with rfl | rfl | rfl | rfl | rfl | rfl
    · exact ⟨_, c1, fun v y => nomatch y⟩
    · exact ⟨_, c2, fun v y => nomatch y⟩
    · exact ⟨_, c3, fun v y => nomatch y⟩
    · exact c4.there
    · exact c5.there
    · exact c6.there
  keep := fun i h h' ⟨c1, c2, ⟨u, v, w, c3⟩, c4, c5, c6⟩ k => ⟨k z (by simp) _ c1, k TI (by simp) _ c2, ⟨u, v, w, k TO (by simp) _ c3⟩, c4.to fun o y => k j1 (by simp) o y, c5.to fun o y => k j2 (by simp) o y, c6.to fun o y => k j3 (by simp) o y⟩
  item := by
    intro X hP hw hK hc i pins s σ H E I hf ⟨c1, c2, ⟨u0, v0, w0, c3⟩, c4, c5, c6⟩ ⟨us, vs, ws, u, v, w', m1, m2, m3, g1, g2, g3⟩
    subst hP hw hK
    obtain ⟨ks, r1, p1, _⟩ := inv_seqB I m1
    obtain ⟨ls, r2, p2, _⟩ := inv_seqB I m2
    obtain ⟨ms, r3, p3, _⟩ := inv_seqB I m3
    obtain ⟨x, hx, rx⟩ := r1.get g1
    obtain ⟨y, hy, ry⟩ := r2.get g2
    obtain ⟨t, ht, rt⟩ := r3.get g3
    have lz : z < s.heap.objs.size := Heap.lt_size c1
    have b1 : i < ks.toArray.size := by rw [List.size_toArray]; exact (List.getElem?_eq_some_iff.mp hx).1
    have b2 : i < ls.toArray.size := by rw [List.size_toArray]; exact (List.getElem?_eq_some_iff.mp hy).1
    have b3 : i < ms.toArray.size := by rw [List.size_toArray]; exact (List.getElem?_eq_some_iff.mp ht).1
    refine wpAny_pyNext_zipD3_item Z (drawsB q1 (A := X.A.in1) (I.ok.hd hc) j1 a na ks.toArray) (drawsB q2 (A := X.A.in1) (I.ok.hd hc) j2 b nb ls.toArray) (drawsB q3 (A := X.A.in1) (I.ok.hd hc) j3 c nc ms.toArray) c1 c2 c3 ⟨c4, p1⟩ ⟨c5, p2⟩ ⟨c6, p3⟩ b1 b2 b3 fun x' y' t' h' tk e1 e2 e3 z1 o1 t1 t2 t3 n1 hsz hk => ?_
    obtain rfl : x' = x := by
      have : ks.toArray[i]? = some x := by simpa using hx
      rw [this] at e1; exact (Option.some.inj e1).symm
    obtain rfl : y' = y := by
      have : ls.toArray[i]? = some y := by simpa using hy
      rw [this] at e2; exact (Option.some.inj e2).symm
    obtain rfl : t' = t := by
      have : ms.toArray[i]? = some t := by simpa using ht
      rw [this] at e3; exact (Option.some.inj e3).symm
    refine ⟨_, rfl, wpAny_letOwnedTupleGo_zip (s := { s with heap := h', toks := tk }) z1 fun h2 z2 sb => ?_⟩
    have nT : h2.get? s.heap.objs.size = some { cls := .type "tuple", data := .seq #[x', y', t'] } := (sb.2 _ (Nat.ne_of_gt lz)).trans n1
    have new : ObjOk X.prog X.w (upd H s.heap.objs.size (.tup [u, v, w'])) h2 s.heap.objs.size (.tup [u, v, w']) := ⟨by show 3 ≤ sizeLine; decide, [x', y', t'], .cons rx (.cons ry (.cons rt .nil)), ⟨_, nT, rfl, _, rfl⟩⟩
    have I1 : Inv X pins σ (upd H s.heap.objs.size (.tup [u, v, w'])) { s with heap := h2, toks := tk } := I.turnedNew (t' := tk) (ch := [z, TI, TO, j1, j2, j3]) (fun c o hb y => by
      simp only [List.mem_cons, List.not_mem_nil, or_false, not_or] at hb
      exact (sb.2 c hb.1).trans (hk c o hb.1 hb.2.2.1 hb.2.2.2.1 hb.2.2.2.2.1 hb.2.2.2.2.2 y)) hf (Nat.le_refl _) new
    refine ⟨.ref s.heap.objs.size, _, I1, rfl, ⟨_, u, v, w', rfl, I.hok.fresh (Nat.le_refl _), rfl, fun l hl => by rw [inv_injB I hl m1]; exact g1, fun l hl => by rw [inv_injB I hl m2]; exact g2, fun l hl => by rw [inv_injB I hl m3]; exact g3⟩,
      ⟨z2, (sb.2 _ Z.TIz).trans (hk _ _ Z.TIz Z.TITO Z.TIi1 Z.TIi2 Z.TIi3 c2), ⟨x', y', t', (sb.2 _ Z.TOz).trans o1⟩, t1.1.to fun o y => (sb.2 _ Z.zi1.symm).trans y, t2.1.to fun o y => (sb.2 _ Z.zi2.symm).trans y, t3.1.to fun o y => (sb.2 _ Z.zi3.symm).trans y⟩, fun c hcm => ?_⟩
    have hlt : c < s.heap.objs.size := by
      have hcm : c = z ∨ c = TI ∨ c = TO ∨ c = j1 ∨ c = j2 ∨ c = j3 := by simpa using hcm
      rcases hcm with rfl | rfl | rfl | rfl | rfl | rfl
      · exact lz
      · exact Heap.lt_size c2
      · exact Heap.lt_size c3
      · obtain ⟨_, y, _⟩ := c4.there; exact Heap.lt_size y
      · obtain ⟨_, y, _⟩ := c5.there; exact Heap.lt_size y
      · obtain ⟨_, y, _⟩ := c6.there; exact Heap.lt_size y
    rw [upd_ne (Nat.ne_of_lt hlt)]
    exact (hf c hcm).1
  done := by
    intro X hP hw hK hc i pins s σ H E I hf ⟨c1, c2, ⟨u0, v0, w0, c3⟩, c4, c5, c6⟩ ⟨us, vs, ws, m1, m2, m3, hi⟩
    subst hP hw hK
    obtain ⟨ks, r1, p1, _⟩ := inv_seqB I m1
    obtain ⟨ls, r2, p2, _⟩ := inv_seqB I m2
    obtain ⟨ms, r3, p3, _⟩ := inv_seqB I m3
    have l1 : ks.toArray.size = us.length := by rw [List.size_toArray, r1.length]
    have l2 : ls.toArray.size = vs.length := by rw [List.size_toArray, r2.length]
    have l3 : ms.toArray.size = ws.length := by rw [List.size_toArray, r3.length]
    exact wpAny_pyNext_zipD3_end Z (drawsB q1 (A := X.A.in1) (I.ok.hd hc) j1 a na ks.toArray) (drawsB q2 (A := X.A.in1) (I.ok.hd hc) j2 b nb ls.toArray) (drawsB q3 (A := X.A.in1) (I.ok.hd hc) j3 c nc ms.toArray) c1 c2 c3 ⟨c4, p1⟩ ⟨c5, p2⟩ ⟨c6, p3⟩ (by omega) (by omega) (by omega) (by omega) fun h' tk hk => ⟨rfl, I.turnedL (t' := tk) (ch := [z, TI, TO, j1, j2, j3]) (fun c o hb y => by
      simp only [List.mem_cons, List.not_mem_nil, or_false, not_or] at hb
      exact hk c o hb.1 hb.2.2.1 hb.2.2.2.1 hb.2.2.2.2.1 hb.2.2.2.2.2 y) hf⟩
  self := fun A i s Q E c h => wpAny_pyIter_zip c.1 h
def iZip3B (K : PySem.W.Frag) (ta : TA) : TI := fun σ H R => ta σ H fun vs H1 => ∃ (q1 q2 q3 : Bool) (a b c : Addr) (xs ys zs : List V), vs = [.ref a, .ref b, .ref c] ∧ SqB q1 K H1 a xs ∧ SqB q2 K H1 b ys ∧ SqB q3 K H1 c zs ∧ R (It3B K q1 q2 q3 a b c) H1
theorem pi_zip3B {X : Cx} {m1 m2 m3 : Expr} {ta : TA} {p pos tpos : Pos} {els : List Expr} {kk : Nat} (hg : Gl X "zip") (hm : X.mg "zip" = none) (ha : PA X [m1, m2, m3] ta)
    (hs : starEach [m1, m2, m3] X.env = (false, eval m1 X.env) :: starEach [m2, m3] X.env) (hpl : (backTo pos (starEach [m2, m3] X.env)).any (·.1) = false) : PI X (.Tuple els kk tpos) (.Call (.Name "zip" p) [m1, m2, m3] [] pos) (iZip3B X.K ta) := by
  refine ⟨fun pins s σ H R I h => ?_⟩
  refine Call_ (ld_blt I hg hm PyProof.Rows.boot_zip (PyProof.Rows.callWith_type1 (thn (ha.run pos pins s σ H _ I h) fun us s1 ⟨vs, H1, I1, r1, q1, q2, q3, a, b, c, xs, ys, zs, ex, m1, m2, m3, q⟩ => ?_) hs hpl))
  subst ex
  cases r1 with
  | cons r rr =>
    cases rr with
    | cons r' rr =>
      cases rr with
      | cons r'' rr =>
        cases rr
        cases r
        cases r'
        cases r''
        obtain ⟨ks, _, p1, la⟩ := inv_seqB I1 m1
        obtain ⟨ls, _, p2, lb⟩ := inv_seqB I1 m2
        obtain ⟨ms, _, p3, lc⟩ := inv_seqB I1 m3
        refine zip_begins3 (beginB q1 a ks.toArray) (beginB q2 b ls.toArray) (beginB q3 c ms.toArray) p1 p2 p3 fun h' hz hTI hTO g1 g2 g3 hsz hk => wpAny_pyIter_zip hz ?_
        have I2 : Inv X pins σ H1 { s1 with heap := h' } := I1.kept (t' := s1.toks) hk
        refine ⟨s1.heap.objs.size + 5, [s1.heap.objs.size + 5, s1.heap.objs.size + 3, s1.heap.objs.size + 4, s1.heap.objs.size, s1.heap.objs.size + 1, s1.heap.objs.size + 2], _, _, H1, rfl, I2,
          turnB3 q1 q2 q3 (zip_sep3 (N := s1.heap.objs.size) (fp1 := [a]) (fp2 := [b]) (fp3 := [c]) (fun x hx => by rw [List.mem_singleton.mp hx]; exact la) (fun x hx => by rw [List.mem_singleton.mp hx]; exact lb) (fun x hx => by rw [List.mem_singleton.mp hx]; exact lc)) (Nat.ne_of_lt la) (Nat.ne_of_lt (Nat.lt_of_lt_of_le lb (Nat.le_add_right _ _))) (Nat.ne_of_lt (Nat.lt_of_lt_of_le lc (Nat.le_add_right _ _))), ⟨hz, hTI, ⟨_, _, _, hTO⟩, objB_it g1, objB_it g2, objB_it g3⟩, fun c hcm => ?_, q⟩
        have hle : s1.heap.objs.size ≤ c := by
          have hcm : c = s1.heap.objs.size + 5 ∨ c = s1.heap.objs.size + 3 ∨ c = s1.heap.objs.size + 4 ∨ c = s1.heap.objs.size ∨ c = s1.heap.objs.size + 1 ∨ c = s1.heap.objs.size + 2 := by simpa using hcm
          rcases hcm with y | y | y | y | y | y
          · rw [y]; exact Nat.le_add_right _ _
          · rw [y]; exact Nat.le_add_right _ _
          · rw [y]; exact Nat.le_add_right _ _
          · rw [y]; exact Nat.le_refl _
          · rw [y]; exact Nat.le_add_right _ _
          · rw [y]; exact Nat.le_add_right _ _
        exact I1.fpOk hle (I1.hok.fresh hle)
section
variable {K : PySem.W.Frag} {S : Hp → Hp → Prop}
theorem yld_three {F H : Hp} {T : Addr} {d e f : D} {x y z : V} (l : FLe F H) (n : H T = none) (r1 : Rep K F d x) (r2 : Rep K F e y) (r3 : Rep K F f z) : ∃ F', Ext F H F' (upd H T (.tup [x, y, z])) ∧ FLe F' (upd H T (.tup [x, y, z])) ∧ Rep K F' (.tup [d, e, f]) (.ref T) :=
  ⟨upd F T (.tup [x, y, z]), .new l n, l.new n, T, [x, y, z], rfl, upd_same, ⟨x, _, rfl, r1.mono (.upd (l.free n)), y, _, rfl, r2.mono (.upd (l.free n)), z, _, rfl, r3.mono (.upd (l.free n)), rfl⟩, by show 3 ≤ line; decide⟩
theorem walk_zip3B {x y z : D} {xs ys zs : List D} {a b c : Addr} (hx : x.seq? = some xs) (hy : y.seq? = some ys) (hz : z.seq? = some zs) (h1 : Stays K S x (.ref a)) (h2 : Stays K S y (.ref b)) (h3 : Stays K S z (.ref c)) : WalkD K S ((xs.zip (ys.zip zs)).map fun p => .tup [p.1, p.2.1, p.2.2]) (It3B K (isLD x) (isLD y) (isLD z) a b c) where
  go := fun i F H s hi => by
    obtain ⟨l, r1⟩ := h1 F H s
    obtain ⟨_, r2⟩ := h2 F H s
    obtain ⟨_, r3⟩ := h3 F H s
    obtain ⟨_, us, e1, m1, g1⟩ := stays_seqB hx l r1
    obtain ⟨_, vs, e2, m2, g2⟩ := stays_seqB hy l r2
    obtain ⟨_, ws, e3, m3, g3⟩ := stays_seqB hz l r3
    cases e1
    cases e2
    cases e3
    have k1 := g1.length
    have k2 := g2.length
    have k3 := g3.length
    simp only [List.length_map, List.length_zip] at hi
    exact ⟨us, vs, ws, us[i]'(by omega), vs[i]'(by omega), ws[i]'(by omega), m1, m2, m3, by simp, by simp, by simp⟩
  stop := fun F H s => by
    obtain ⟨l, r1⟩ := h1 F H s
    obtain ⟨_, r2⟩ := h2 F H s
    obtain ⟨_, r3⟩ := h3 F H s
    obtain ⟨_, us, e1, m1, g1⟩ := stays_seqB hx l r1
    obtain ⟨_, vs, e2, m2, g2⟩ := stays_seqB hy l r2
    obtain ⟨_, ws, e3, m3, g3⟩ := stays_seqB hz l r3
    cases e1
    cases e2
    cases e3
    exact ⟨us, vs, ws, m1, m2, m3, by rw [List.length_map, List.length_zip, List.length_zip, g1.length, g2.length, g3.length]⟩
  yld := fun i F H v H' s hi ⟨T, u, w, t, e1, n, e2, y1, y2, y3⟩ => by
    obtain ⟨l, r1⟩ := h1 F H s
    obtain ⟨_, r2⟩ := h2 F H s
    obtain ⟨_, r3⟩ := h3 F H s
    obtain ⟨_, us, ex1, m1, g1⟩ := stays_seqB hx l r1
    obtain ⟨_, vs, ex2, m2, g2⟩ := stays_seqB hy l r2
    obtain ⟨_, ws, ex3, m3, g3⟩ := stays_seqB hz l r3
    cases ex1
    cases ex2
    cases ex3
    subst e1 e2
    obtain ⟨d, hd, rd⟩ := g1.get' (y1 us m1)
    obtain ⟨e, he, re⟩ := g2.get' (y2 vs m2)
    obtain ⟨f, hf, rf⟩ := g3.get' (y3 ws m3)
    obtain ⟨F', x1, l1, rr⟩ := yld_three l n rd re rf
    exact ⟨F', _, x1, l1, by rw [List.getElem?_map, List.getElem?_zip_eq_some (z := (d, (e, f))) |>.mpr ⟨hd, List.getElem?_zip_eq_some (z := (e, f)) |>.mpr ⟨he, hf⟩⟩]; rfl, rr⟩
end
section
variable {X : Cx} {G GI : Gm} {fr : Bool} {a b c : E} {me ma mb mc : Expr} {pos pp tpos : Pos} {els : List Expr} {kk : Nat} {mes : List Expr} {es : List E}
theorem kw_zip3 (g : GoodX X) (ha : PA X [ma, mb, mc] (tM fr X.K G [a, b, c])) (hg : Gl X "zip" := by rfl) (hs : starEach [ma, mb, mc] X.env = (false, eval ma X.env) :: starEach [mb, mc] X.env := by rfl) (hpl : (backTo pos (starEach [mb, mc] X.env)).any (·.1) = false := by rfl) :
    PI X (.Tuple els kk tpos) (.Call (.Name "zip" pp) [ma, mb, mc] [] pos) (tI fr X.K G .zip3 [a, b, c]) :=
  (pi_zip3B hg (g.bl _ (by decide +kernel)) ha hs hpl).imp fun σ H R ⟨F, env, vs, xs, o, hv, hw, k⟩ => by
    refine runM o hv fun F1 H1 ws x1 o1 st r1 => ?_
    rcases vs with _ | ⟨x, _ | ⟨y, _ | ⟨z, _ | ⟨_, _⟩⟩⟩⟩ <;> (try simp only [walk] at hw) <;> try cases hw
    obtain ⟨ds, hd, hw⟩ := Option.bind_eq_some_iff.mp hw
    obtain ⟨es, he, hw⟩ := Option.bind_eq_some_iff.mp hw
    obtain ⟨fs, hf, rfl⟩ := Option.map_eq_some_iff.mp hw
    obtain ⟨v, r', rfl, r1, u, r'', rfl, r2, t, r3', rfl, r3, ex⟩ := r1
    cases ex
    obtain ⟨_, _, ew, s1, _, _, ew2, s2, _, _, ew3, s3, _⟩ := st
    cases ew
    cases ew2
    cases ew3
    obtain ⟨l1, us, rfl, m1, _⟩ := stays_seqB hd o1.le r1
    obtain ⟨l2, vs, rfl, m2, _⟩ := stays_seqB he o1.le r2
    obtain ⟨l3, ws, rfl, m3, _⟩ := stays_seqB hf o1.le r3
    exact ⟨_, _, _, l1, l2, l3, us, vs, ws, rfl, m1, m2, m3, k _ _ _ x1 o1.le (walk_zip3B hd he hf s1 s2 s3)⟩
/-! ### range(n) -/
theorem cr_range1 : CallR X (.type "range") (fun vs H Q => ∃ j, vs = [V.int j] ∧ ∀ p, H p = none → Q (.ref p) (upd H p (.rng 0 j))) := by
  intro pins s σ H vs us Q I r h
  obtain ⟨j, rfl, q⟩ := h
  obtain ⟨u1, rfl, ri⟩ := vals1 r
  obtain ⟨t, e⟩ := ri
  subst e
  refine PySem.call_range_1 ⟨.ref s.heap.objs.size, upd H s.heap.objs.size (.rng 0 j), I.laid (t' := s.toks + 1 + 1) (fun b o e => Heap.get?_push_of_some _ e) (Nat.le_refl _) ?_, rfl, q _ (I.hok.fresh (Nat.le_refl _))⟩
  exact ⟨s.toks, t, s.toks + 1, Heap.get?_push_size _ rfl⟩
theorem rng_ok {K : PySem.W.Frag} : B1ok K .rng (fun vs H Q => ∃ j, vs = [V.int j] ∧ ∀ p, H p = none → Q (.ref p) (upd H p (.rng 0 j))) := by
  intro x z F H v Q hz l rx k
  cases x <;> simp only [opU] at hz <;> try cases hz
  rename_i j
  show ∃ j, [v] = [V.int j] ∧ ∀ p, H p = none → Q (.ref p) (upd H p (.rng 0 j))
  exact ⟨j, by rw [rx.int], fun p hp => k _ _ _ (.new l hp) (l.new hp) ⟨p, rfl, upd_same⟩⟩
theorem k_rng (g : GoodX X) (ha : PE X ma (tB X.K G a)) (hg : Gl X "range" := by rfl) (hs : starEach [ma] X.env = [(false, eval ma X.env)] := by rfl) : PE X (.Call (.Name "range" pp) [ma] [] pos) (tD X.K G (.b1 .rng a)) :=
  r_b1T (id := "range") cr_range1 rng_ok hg (g.bl _ (by decide +kernel)) (by decide +kernel) ha hs
end
/-! ### a call that is lent what names own -/
mutual
theorem flat_rep {K : PySem.W.Frag} {F F' : Hp} (m : ∀ a vs, F a = some (.tup vs) → F' a = some (.tup vs)) : ∀ (d : D) {v : V}, D.flat d = true → Rep K F d v → Rep K F' d v
  | .non, _, _, r => r
  | .bl _, _, _, r => r
  | .int _, _, _, r => r
  | .tup xs, _, h, r => let ⟨a, vs, e, f, r, l⟩ := r; ⟨a, vs, e, m _ _ f, flat_repL m xs (by simpa [D.flat] using h) r, l⟩
  | .lst _, _, h, _ => by simp [D.flat] at h
  | .dic _ _, _, h, _ => by simp [D.flat] at h
  | .rng _ _, _, h, _ => by simp [D.flat] at h
  | .scr _, _, h, _ => by simp [D.flat] at h
theorem flat_repL {K : PySem.W.Frag} {F F' : Hp} (m : ∀ a vs, F a = some (.tup vs) → F' a = some (.tup vs)) : ∀ (ds : List D) {vs : List V}, D.flatL ds = true → RepL K F ds vs → RepL K F' ds vs
  | [], _, _, r => r
  | d :: ds, _, h, r => by
    obtain ⟨v, r', e, r1, r2⟩ := r
    simp only [D.flatL, Bool.and_eq_true] at h
    exact ⟨v, r', e, flat_rep m d h.1 r1, flat_repL m ds h.2 r2⟩
end
open Classical in
/-- all that names own, frozen -/
noncomputable def frzOwn (σ : St) (env : Env) (F H : Hp) : Hp := fun a => if Own σ env a then H a else F a
open Classical in
noncomputable def dropOwn (σ : St) (env : Env) (F : Hp) : Hp := fun a => if Own σ env a then none else F a
section
variable {K : PySem.W.Frag} {F H F' H' : Hp} {σ : St} {env : Env}
theorem frz_own {a : Addr} (h : Own σ env a) : frzOwn σ env F H a = H a := by unfold frzOwn; rw [if_pos h]
theorem frz_not {a : Addr} (h : ¬ Own σ env a) : frzOwn σ env F H a = F a := by unfold frzOwn; rw [if_neg h]
theorem drop_own {a : Addr} (h : Own σ env a) : dropOwn σ env F a = none := by unfold dropOwn; rw [if_pos h]
theorem drop_not {a : Addr} (h : ¬ Own σ env a) : dropOwn σ env F a = F a := by unfold dropOwn; rw [if_neg h]
theorem own_free (o : Ok K F H σ env) {a : Addr} (h : Own σ env a) : F a = none ∧ ∃ u, H a = some u ∧ isTupO u = false := by
  obtain ⟨i, d, h1, h2⟩ := h
  obtain ⟨q, g1, g2, g3⟩ := o.en.own i d h1
  rw [h2] at g1
  cases g1
  exact ⟨g2, g3.there⟩
theorem frz_mono (o : Ok K F H σ env) : FMono F (frzOwn σ env F H) := fun a u e => by
  have n : ¬ Own σ env a := fun z => by rw [(own_free o z).1] at e; cases e
  rw [frz_not n]; exact e
theorem frz_le (o : Ok K F H σ env) : FLe (frzOwn σ env F H) H := fun a u e => by
  by_cases h : Own σ env a
  · rw [frz_own h] at e; exact .inl e
  · rw [frz_not h] at e; exact o.le a u e
theorem frz_rep (o : Ok K F H σ env) {d : D} {v : V} (h : RepV K F σ env d v) : Rep K (frzOwn σ env F H) d v := by
  rcases h with h | ⟨i, a, h1, h2, rfl⟩
  · exact h.mono (frz_mono o)
  · obtain ⟨q, g1, g2, g3⟩ := o.en.own i d h1
    rw [h2] at g1
    cases g1
    have hw : frzOwn σ env F H a = H a := frz_own ⟨i, d, h1, h2⟩
    cases d with
    | lst ds => obtain ⟨vs, e, r, l⟩ := g3; exact ⟨a, vs, rfl, hw.trans e, r.mono (frz_mono o), l⟩
    | dic t kvs => cases t <;> (obtain ⟨vs, e, r⟩ := g3; exact ⟨a, vs, rfl, hw.trans e, r.mono (frz_mono o)⟩)
    | _ => exact False.elim g3
theorem frz_repL (o : Ok K F H σ env) : ∀ {ds : List D} {vs : List V}, RepVL K F σ env ds vs → RepL K (frzOwn σ env F H) ds vs
  | [], _, h => h
  | d :: ds, _, h => let ⟨v, r, e, h1, h2⟩ := h; ⟨v, r, e, frz_rep o h1, frz_repL o h2⟩
theorem drop_ext (o : Ok K F H σ env) (x : Ext (frzOwn σ env F H) H F' H') : Ext F H (dropOwn σ env F') H' := by
  refine ⟨fun a u e => ?_, x.h, fun a u e z => ?_⟩
  · have n : ¬ Own σ env a := fun z => by rw [(own_free o z).1] at e; cases e
    rw [drop_not n]
    exact x.f a u (by rw [frz_not n]; exact e)
  · by_cases h : Own σ env a
    · rw [drop_own h, (own_free o h).1]
    · rw [drop_not h, x.n a u e z, frz_not h]
theorem drop_le (l : FLe F' H') : FLe (dropOwn σ env F') H' := fun a u e => by
  by_cases h : Own σ env a
  · rw [drop_own h] at e; cases e
  · rw [drop_not h] at e; exact l a u e
theorem drop_rep (o : Ok K F H σ env) (x : Ext (frzOwn σ env F H) H F' H') {d : D} {v : V} (hf : D.flat d = true) (r : Rep K F' d v) : Rep K (dropOwn σ env F') d v := by
  refine flat_rep (fun a vs e => ?_) d hf r
  have n : ¬ Own σ env a := fun z => by
    obtain ⟨_, u, hu, nt⟩ := own_free o z
    have := x.f a u (by rw [frz_own z]; exact hu)
    rw [e] at this
    cases this
    cases nt
  rw [drop_not n]; exact e
end
section
variable {X : Cx} {G GI : Gm} {me : Expr} {pos pp : Pos} {mes : List Expr} {es : List E}
theorem k_callB {x : Str} {f n : Nat} (c : Cal X G x f n) (ha : PA X (me :: mes) (tM false X.K G es)) (hg : Gl X x := by rfl) (hdb : (x == ("__debug__" : Str)) = false := by decide +kernel) (he : starEach (me :: mes) X.env = (false, eval me X.env) :: starEach mes X.env := by rfl)
    (hpl : (backTo pos (starEach mes X.env)).any (·.1) = false := by rfl) : PE X (.Call (.Name x pp) (me :: mes) [] pos) (tD X.K G (.callB f es)) := by
  obtain ⟨k, fa, fd, ps, hps, F0, hr, hm, hk, hb⟩ := c.ok.ex
  refine (pe_call F0 hr hg hm hk hb .nil (E := E0) pass0 ha hdb he hpl).imp fun σ H Q ⟨F, env, d, o, hd, q⟩ => ?_
  obtain ⟨ds, hds, hd⟩ := Option.bind_eq_some_iff.mp (show (evB G env es).bind _ = some d from hd)
  obtain ⟨d', hd', hf⟩ := Option.bind_eq_some_iff.mp hd
  have hf1 : D.flat d' = true := Decidable.byContradiction fun n => by rw [if_neg n] at hf; cases hf
  rw [if_pos hf1] at hf
  cases hf
  refine ⟨F, env, ds, o, hds, fun F1 H1 vs x1 l1 r1 => ?_⟩
  have o1 := o.ext x1 l1
  have r2 := frz_repL o1 r1
  show spD X.K n (G f) (vs ++ []) H1 _ _
  rw [List.append_nil]
  exact ⟨by rw [r2.length, c.len ds _ hd'], _, ds, _, frz_le o1, r2, hd', fun F' H' v x2 l2 r3 => q (dropOwn σ env F') H' v (x1.trans (drop_ext o1 x2)) (drop_le l2) (drop_rep o1 x2 hf1 r3)⟩
end
/-! ### [.. for k in d if ..], the dict locked meanwhile -/
abbrev kE (i : Nat) : E := .ife (.val (.bl true)) (.var i) .non
theorem evM_kE {fr : Bool} {G : Gm} {env : Env} {i : Nat} {vs : List D} (h : evM fr G env [kE i] = some vs) : ∃ x, env.val i = some x ∧ vs = [x] := by
  obtain ⟨x, hx, rfl⟩ := evM_one h
  refine ⟨x, ?_, rfl⟩
  cases fr <;> exact hx
section
variable {K : PySem.W.Frag} {G : Gm} {F F0 H0 F1 H H1 : Hp} {σ τ : St} {env ρ : Env} {A : Addr}
theorem lc_turnsS {Sx : Hp → Hp → Prop} {Qd : Hp → Prop} {J : It} {xs : List D} {rs : List (Option D)} {e : E} {t : T} {fs : List C} {own : List Nat} {base : List D}
    (W : WalkD K Sx xs J) (hSx : ∀ F H bs, FMono F1 F → Acc K F0 H0 σ env τ ρ A bs F H → Sx F H) (hD : H0 A = none) (hno : NoOwn σ env A) (hn2 : NoOwn τ ρ A)
    (hnm : ∀ j ∈ T.names t, j ∈ own) (hl : rs.length = xs.length) (hr : ∀ (i : Nat) (x : D), xs[i]? = some x → ∃ r, rs[i]? = some r ∧ ((bind t x (env.kill own)).bind fun env' => (tsL G env' fs).bind fun c => if c then (ev G env' e).map some else some none) = some r)
    (hsz : base.length + (rs.filterMap id).length ≤ line) {H2 : Hp} (start : Acc K F0 H0 σ env τ ρ A base F1 H2) (fin : ∀ F H, Acc K F0 H0 σ env τ ρ A (base ++ rs.filterMap id) F H → FMono F1 F → Qd H) :
    ∃ W : Nat → Nat → Hp → Prop, (∃ m, W 0 m H2) ∧ ∀ i m H, W i m H →
      (J.stop i H ∧ Qd H) ∨ (J.go i H ∧ ∃ Nx : Hp → Prop, (∀ H', Nx H' → ∃ m', m' < m ∧ W (i + 1) m' H') ∧ ∀ x H', J.yld i H x H' → tG K t x (wipe σ own) H' fun σ2 H2 => wipe σ2 own = wipe σ own ∧ tTL K G fs σ2 H2 fun b H3 =>
        if b = true then tD K G e σ2 H3 fun y H4 => ∃ acc, H4 A = some (.lst acc) ∧ acc.length < sizeLine ∧ Nx (upd H4 A (.lst (acc ++ [y]))) else Nx H3) := by
  refine ⟨fun i m H => m = xs.length - i ∧ i ≤ xs.length ∧ ∃ F, FMono F1 F ∧ Acc K F0 H0 σ env τ ρ A (base ++ (rs.take i).filterMap id) F H, ⟨xs.length, by simp, Nat.zero_le _, F1, .refl _, by simpa using start⟩, ?_⟩
  rintro i m H ⟨rfl, hi, F, hm, a⟩
  have hS := hSx F H _ hm a
  by_cases hlt : i < xs.length
  · refine .inr ⟨W.go i F H hS hlt, fun H => ∃ F, FMono F1 F ∧ Acc K F0 H0 σ env τ ρ A (base ++ (rs.take (i + 1)).filterMap id) F H, fun H' n => ⟨xs.length - (i + 1), by omega, rfl, hlt, n⟩, fun x H' y => ?_⟩
    obtain ⟨F3, d, x3, l3, hd, rd⟩ := W.yld i F H x H' hS hlt y
    obtain ⟨r, hri, hf⟩ := hr i d hd
    obtain ⟨env2, hb, hf⟩ := Option.bind_eq_some_iff.mp hf
    obtain ⟨c, hc, hf⟩ := Option.bind_eq_some_iff.mp hf
    have a3 := a.ext' x3 l3
    refine ⟨F3, _, d, env2, ⟨l3, a3.ok.en.wipe own⟩, rd, hb, fun σ2 o2 ln2 sm2 => ⟨own_tgt hnm ln2 sm2, F3, env2, c, o2, hc, fun F4 H4 x4 l4 => ?_⟩⟩
    have a4 := a3.ext' x4 l4
    cases c with
    | false =>
      cases hf
      refine iteF ?_
      exact ⟨F4, (hm.trans x3.f).trans x4.f, by rw [take_fm hri]; simpa using a4⟩
    | true =>
      obtain ⟨z, hz, rfl⟩ := Option.map_eq_some_iff.mp (show (ev G env2 e).map some = some r from hf)
      refine iteT ?_
      refine ⟨F4, env2, z, o2.ext x4 l4, hz, fun F5 H5 v x5 l5 r5 => ?_⟩
      have a5 := a4.ext' x5 l5
      obtain ⟨acc, h1, racc⟩ := a5.it
      refine ⟨acc, h1, ?_, F5, ((hm.trans x3.f).trans x4.f).trans x5.f, ?_⟩
      · have e1 := racc.length
        have e2 := fm_take_le rs (i + 1)
        rw [take_fm hri] at e2
        simp only [List.length_append, Option.toList_some, List.length_cons, List.length_nil] at e1 e2
        rw [line_eq]; omega
      · rw [take_fm hri, ← List.append_assoc]
        exact a5.push hD hno hn2 h1 racc r5
  · have e : i = xs.length := by omega
    subst e
    refine .inl ⟨W.stop F H hS, fin F H ?_ hm⟩
    rw [List.take_of_length_le (by omega)] at a
    exact a
/-- unlocked again -/
theorem Ext.unlock {p : Addr} {u : HO} {od : Obj} {F' H' : Hp} (hF : F p = some u) (hH : H p = some u) (x : Ext F (upd H p (.frz od u)) F' H') : H' p = some (.frz od u) ∧ Ext F H F' (upd H' p u) := by
  refine ⟨x.h p _ upd_same, x.f, fun c w e => ?_, fun c w e z => ?_⟩
  · by_cases hc : c = p
    · subst hc; rw [upd_same]; rw [hH] at e; exact e
    · rw [upd_ne hc]; exact x.h c w (by rw [upd_ne hc]; exact e)
  · by_cases hc : c = p
    · subst hc; rw [x.f _ _ hF, hF]
    · exact x.n c w (by rw [upd_ne hc]; exact e) z
theorem FLe.unlock {p : Addr} {u : HO} {F' H' : Hp} (hF : F' p = some u) (l : FLe F' H') : FLe F' (upd H' p u) := fun c w e => by
  by_cases hc : c = p
  · subst hc; rw [hF] at e; cases e; rw [upd_same]; exact .inl rfl
  · rw [upd_ne hc]; exact l c w e
/-- a dict that a name holds frozen -/
theorem dic_held {i : Nat} {t : Bool} {kvs : List (D × D)} (o : Ok K F H σ env) (hd : env.val i = some (.dic t kvs)) : ∃ (p : Addr) (u : HO), σ[i]? = some (some (.ref p)) ∧ F p = some u ∧ isDic u = true ∧ Mut (some u) ∧ ((∃ ws, u = .dK ws ∧ RepK K F kvs ws) ∨ ∃ ws, u = .dT ws ∧ RepT K F kvs ws) := by
  obtain ⟨v, hi, rv⟩ := o.en.val i _ (val_some hd)
  cases t with
  | false => obtain ⟨a, ws, rfl, e, rr⟩ := rv; exact ⟨a, _, hi, e, rfl, True.intro, .inl ⟨ws, rfl, rr⟩⟩
  | true => obtain ⟨a, ws, rfl, e, rr⟩ := rv; exact ⟨a, _, hi, e, rfl, True.intro, .inr ⟨ws, rfl, rr⟩⟩
theorem lcK_core {i : Nat} {p : Addr} {u : HO} {od : Obj} {kvs : List (D × D)} {rs : List (Option D)} {e : E} {t : T} {fs : List C} {own : List Nat} {Q : VK} (o : Ok K F H σ env) (hF : F p = some u) (hL : H p = some (.frz od u)) (hi : σ[i]? = some (some (.ref p)))
    (hk : (∃ ws, u = .dK ws ∧ RepK K F kvs ws) ∨ ∃ ws, u = .dT ws ∧ RepT K F kvs ws) (hnm : ∀ j ∈ T.names t, j ∈ own) (hl : rs.length = (kvs.map (·.1)).length)
    (hr : ∀ (i : Nat) (x : D), (kvs.map (·.1))[i]? = some x → ∃ r, rs[i]? = some r ∧ ((bind t x (env.kill own)).bind fun env' => (tsL G env' fs).bind fun c => if c then (ev G env' e).map some else some none) = some r)
    (hz : (rs.filterMap id).length ≤ line) (q : ∀ F' H' A, Ext F H F' H' → FLe F' H' → H A = none → F' A = none → OwnAt K F' H' A (.lst (rs.filterMap id)) → Q (.ref A) H') :
    tLc (iKeys (L2.tVar i)) (tG K t) (tTL K G fs) (tD K G e) own σ H Q := by
  have key : ∀ {J : It}, WalkD K (SK F p u od) (kvs.map (·.1)) J → ∀ A, H A = none → ∃ W : Nat → Nat → Hp → Prop, (∃ m, W 0 m (upd H A (.lst []))) ∧ ∀ i m H, W i m H →
      (J.stop i H ∧ Q (.ref A) H) ∨ (J.go i H ∧ ∃ Nx : Hp → Prop, (∀ H', Nx H' → ∃ m', m' < m ∧ W (i + 1) m' H') ∧ ∀ x H', J.yld i H x H' → tG K t x (wipe σ own) H' fun σ2 H2 => wipe σ2 own = wipe σ own ∧ tTL K G fs σ2 H2 fun b H3 =>
        if b = true then tD K G e σ2 H3 fun y H4 => ∃ acc, H4 A = some (.lst acc) ∧ acc.length < sizeLine ∧ Nx (upd H4 A (.lst (acc ++ [y]))) else Nx H3) := fun W A nA => by
    have nf := o.le.free nA
    have st : Acc K F H σ env σ env A [] F (upd H A (.lst [])) := ⟨.made nA, o.ext (.made nA) (o.le.made nA), o.ext (.made nA) (o.le.made nA), nf, [], upd_same, rfl⟩
    refine lc_turnsS W (fun F1 H1 bs m a => ⟨m, a.ok.le, a.ext.h p _ hL⟩) nA (own_ne o nA) (own_ne o nA) hnm hl hr (by simpa using hz) st fun F2 H2 a _ => ?_
    obtain ⟨acc, h1, racc⟩ := a.it
    exact q F2 H2 A a.ext a.ok.le nA a.df ⟨acc, h1, racc, hz⟩
  refine ⟨.ref p, hi, p, od, rfl, ?_⟩
  rcases hk with ⟨ws, rfl, rr⟩ | ⟨ws, rfl, rr⟩
  · exact .inl ⟨ws, hL, key (walk_keysK rr)⟩
  · exact .inr ⟨ws, hL, key (walk_keysT rr)⟩
theorem lcK_reads {i : Nat} {e : E} {t : T} {fs : List C} {own : List Nat} {Q : VK} (hnm : ∀ j ∈ T.names t, j ∈ own) (h : tN K G (.comp e t .keys [kE i] fs own) σ H Q) :
    tLc (iKeys (L2.tVar i)) (tG K t) (tTL K G fs) (tD K G e) own σ H Q ∨ tLockE (tLc (iKeys (L2.tVar i)) (tG K t) (tTL K G fs) (tD K G e) own) σ H Q := by
  obtain ⟨F, env, d, o, hd, q⟩ := h
  obtain ⟨vs, hv, hd⟩ := Option.bind_eq_some_iff.mp (show (evB G env [kE i]).bind _ = some d from hd)
  obtain ⟨xs, hx, hd⟩ := Option.bind_eq_some_iff.mp hd
  obtain ⟨ys, hy, hd⟩ := Option.bind_eq_some_iff.mp hd
  obtain ⟨x, hval, rfl⟩ := evM_kE (fr := false) hv
  have key : ∃ t kvs, x = .dic t kvs := by cases x <;> first | exact ⟨_, _, rfl⟩ | cases hx
  obtain ⟨tk, kvs, rfl⟩ := key
  have hx : some (kvs.map (·.1)) = some xs := hx
  cases hx
  obtain ⟨rs, hl, hr, rfl⟩ := compL_some hy
  have hz : (rs.filterMap id).length ≤ line := Decidable.byContradiction fun n => by unfold fits at hd; rw [if_neg n] at hd; cases hd
  unfold fits at hd
  rw [if_pos hz] at hd
  cases hd
  obtain ⟨p, u, hi, hF, hdic, mu, hk⟩ := dic_held o hval
  rcases o.le p u hF with hH | ⟨_, od, hL⟩
  · refine .inr ⟨p, u, hH, mu, fun od => lcK_core (o.lock hF hdic) hF upd_same hi hk hnm hl hr hz fun F' H' A x l n f w => ?_⟩
    obtain ⟨h1, h2⟩ := x.unlock hF hH
    have hA : A ≠ p := fun z => by rw [z, upd_same] at n; cases n
    rw [upd_ne hA] at n
    exact ⟨h1, q F' _ A h2 (l.unlock (h2.f _ _ hF)) n f (w.mono (.refl _) fun w y => by rw [upd_ne hA]; exact y)⟩
  · exact .inl (lcK_core o hF hL hi hk hnm hl hr hz q)
theorem tLock_of {i : Nat} {t : TE} {D : Ends} (h : tLockE t σ H (fun v H' => gName i v σ H' D.nx)) : tLock (tAsg t (gName i)) D σ H := h
end
section
variable {X : Cx} {G GI : Gm} {e : E} {t : T} {fs : List C} {elt tg : Expr} {ifs : List Expr} {scope : Scope} {pos pp spos py : Pos} {z : Str}
theorem kn_compK {j : Nat} (own : List (Str × Nat)) (g : GoodX X) (hv : PE X (.Name z pp) (L2.tVar j))
    (hg : ∀ (s : Shared) (H : Hp) (C : Addr) (cl : List (Str × Addr)) (fp : List Addr), PG (X.blk s H scope (compEnvC scope cl C X.env) fp) tg (tG X.K t)) (ht : ∀ (s : Shared) (H : Hp) (C : Addr) (cl : List (Str × Addr)) (fp : List Addr), PTs (X.blk s H scope (compEnvC scope cl C X.env) fp) ifs (tTL X.K G fs))
    (he : ∀ (s : Shared) (H : Hp) (C : Addr) (cl : List (Str × Addr)) (fp : List Addr), PE (X.blk s H scope (compEnvC scope cl C X.env) fp) elt (tD X.K G e))
    (hnm : ownB t own = true := by rfl) (ok : blkB X.N X.env.scope scope own = true := by kernel_rfl) (hs : ∀ x, foldedSetIterable (.Name z pp) X.env x = pure x := by intro _; rfl) :
    PE X (.ListComp elt [⟨tg, .Name z pp, ifs, 0⟩] scope pos) (tN X.K G (.comp e t .keys [kE j] fs (own.map (·.2)))) :=
  ((pe_lc g.calm g.nd (pi_keys hv) (blk_of ok) hg ht he hs).or (pe_lock (pe_lc g.calm g.nd (pi_keys hv) (blk_of ok) hg ht he hs))).imp fun _ _ _ h => lcK_reads (own_of hnm) h
theorem ks_compK {j : Nat} (i : Nat) {y : Str} (own : List (Str × Nat)) (g : GoodX X) (hv : PE X (.Name z pp) (L2.tVar j))
    (hg : ∀ (s : Shared) (H : Hp) (C : Addr) (cl : List (Str × Addr)) (fp : List Addr), PG (X.blk s H scope (compEnvC scope cl C X.env) fp) tg (tG X.K t)) (ht : ∀ (s : Shared) (H : Hp) (C : Addr) (cl : List (Str × Addr)) (fp : List Addr), PTs (X.blk s H scope (compEnvC scope cl C X.env) fp) ifs (tTL X.K G fs))
    (he : ∀ (s : Shared) (H : Hp) (C : Addr) (cl : List (Str × Addr)) (fp : List Addr), PE (X.blk s H scope (compEnvC scope cl C X.env) fp) elt (tD X.K G e))
    (hy : X.N[i]? = some y := by rfl) (hyl : X.env.scope.names.lookup y = some .local := by rfl) (hsw : swapsWith (.ListComp elt [⟨tg, .Name z pp, ifs, 0⟩] scope pos) (some (.Name y py)) spos.line X.env = pure true := by rfl)
    (hnm : ownB t own = true := by rfl) (ok : blkB X.N X.env.scope scope own = true := by kernel_rfl) (hs : ∀ x, foldedSetIterable (.Name z pp) X.env x = pure x := by intro _; rfl) :
    PS X (.Assign [.Name y py] (.ListComp elt [⟨tg, .Name z pp, ifs, 0⟩] scope pos) spos) (tAsg (tN X.K G (.comp e t .keys [kE j] fs (own.map (·.2)))) (gName i)) :=
  ((ps_setLc g.calm g.nd hy hyl hsw (pi_keys hv) (blk_of ok) hg ht he hs).or (ps_lock (ps_setLc g.calm g.nd hy hyl hsw (pi_keys hv) (blk_of ok) hg ht he hs))).imp fun D σ H h =>
    (lcK_reads (own_of hnm) h).imp id fun q => tLock_of q
end
end Rx
end

section
set_option Elab.async false
set_option linter.all false
set_option maxRecDepth 100000
set_option autoImplicit false
/-! RxRun: how runs are computed by lemma. -/
namespace Rx
/-! ### loops -/
theorem forL_fold {σ : Type} {step : D → Env → Option (Fl × Env)} {kl : List Nat} (mk : σ → Env) (g : σ → D → σ) (P : σ → Prop) :
    ∀ {xs : List D} {s : σ}, P s → (∀ s, P s → (mk s).kill kl = mk s) → (∀ s x, x ∈ xs → P s → P (g s x) ∧ ∃ e', step x (mk s) = some (.nx, e') ∧ e'.kill kl = mk (g s x)) → forL step kl xs (mk s) = some (.nx, mk (xs.foldl g s)) ∧ P (xs.foldl g s)
  | [], s, p, hk, _ => ⟨by rw [forL, hk s p]; rfl, p⟩
  | x :: xs, s, p, hk, h => by
    obtain ⟨p2, e', h1, h2⟩ := h s x (List.mem_cons_self ..) p
    have ih := forL_fold mk g P (xs := xs) (s := g s x) p2 hk fun s y hy => h s y (List.mem_cons_of_mem _ hy)
    refine ⟨?_, ih.2⟩
    rw [forL, h1]
    show forL step kl xs (e'.kill kl) = _
    rw [h2]; exact ih.1
/-- by turns -/
theorem forL_turns {step : D → Env → Option (Fl × Env)} {kl : List Nat} (I : Nat → Env → Prop) :
    ∀ {xs : List D} {env : Env} (j : Nat), I j env → (∀ (i : Nat) x e, xs[i]? = some x → I (j + i) e → ∃ e', step x e = some (.nx, e') ∧ I (j + i + 1) (e'.kill kl)) → (∀ e, I (j + xs.length) e → I (j + xs.length) (e.kill kl)) →
      ∃ e', forL step kl xs env = some (.nx, e') ∧ I (j + xs.length) e'
  | [], env, j, h0, _, hk => ⟨_, rfl, hk _ h0⟩
  | x :: xs, env, j, h0, h, hk => by
    obtain ⟨e', h1, h2⟩ := h 0 x env rfl h0
    obtain ⟨e2, h3, h4⟩ := forL_turns I (xs := xs) (env := e'.kill kl) (j + 1) h2 (fun i y e hy hi => by
      have := h (i + 1) y e (by simpa using hy) (by rw [show j + (i + 1) = j + 1 + i by omega]; exact hi)
      rw [show j + (i + 1) + 1 = j + 1 + i + 1 by omega] at this
      exact this) (fun e he => by
        have := hk e (by rw [List.length_cons, show j + (xs.length + 1) = j + 1 + xs.length by omega]; exact he)
        rw [List.length_cons, show j + (xs.length + 1) = j + 1 + xs.length by omega] at this
        exact this)
    refine ⟨e2, ?_, by rw [List.length_cons, show j + (xs.length + 1) = j + 1 + xs.length by omega]; exact h4⟩
    rw [forL, h1]
    exact h3
theorem compL_fm {f : D → Option (Option D)} (g : D → Option D) : ∀ {xs : List D}, (∀ x ∈ xs, f x = some (g x)) → compL f xs = some (xs.filterMap g)
  | [], _ => rfl
  | x :: xs, h => by
    rw [compL, h x (List.mem_cons_self ..), Option.bind_some, compL_fm g fun y hy => h y (List.mem_cons_of_mem _ hy)]
    rw [List.filterMap_cons]
    cases g x <;> rfl
theorem compL_map {f : D → Option (Option D)} (g : D → D) {xs : List D} (h : ∀ x ∈ xs, f x = some (some (g x))) : compL f xs = some (xs.map g) := by
  rw [compL_fm (fun x => some (g x)) h, List.filterMap_eq_map']
theorem compLL_flat {f : D → Option (List D)} (g : D → List D) : ∀ {xs : List D}, (∀ x ∈ xs, f x = some (g x)) → compLL f xs = some (xs.flatMap g)
  | [], _ => rfl
  | x :: xs, h => by
    rw [compLL, h x (List.mem_cons_self ..), Option.bind_some, compLL_flat g fun y hy => h y (List.mem_cons_of_mem _ hy)]
    rfl
theorem fits_of {xs : List D} (h : xs.length ≤ line) : fits xs = some (.lst xs) := if_pos h
theorem rgD_map {α : Type} (f : D → α) (n : Nat) : (rgD 0 n).map f = (List.range n).map fun (k : Nat) => f (.int k) := by
  rw [rgD, List.map_map]
  refine List.map_congr_left fun k _ => ?_
  simp
theorem mem_rgD {x : D} {n : Nat} (h : x ∈ rgD 0 n) : ∃ k : Nat, k < n ∧ x = .int k := by
  obtain ⟨k, hk, rfl⟩ := List.mem_map.mp h
  exact ⟨k, List.mem_range.mp hk, by simp⟩
theorem ixN_nat {n i : Nat} (h : i < n) : ixN n (i : Int) = some i := by
  unfold ixN
  rw [if_pos (Int.natCast_nonneg i), if_pos (by omega)]; simp
theorem atI_nat {xs : List D} {i : Nat} {d : D} (h : xs[i]? = some d) : atI xs (i : Int) = some d := by
  unfold atI
  rw [ixN_nat (List.getElem?_eq_some_iff.mp h).1]
  exact h
theorem atI_map {α : Type} {f : α → D} {xs : List α} {i : Nat} (h : i < xs.length) : atI (xs.map f) (i : Int) = some (f xs[i]) := atI_nat (by rw [List.getElem?_map, List.getElem?_eq_getElem h]; rfl)

/-! ### steps -/
section
variable {G GI : Nat → List D → Option D} {env : Env} {i j : Int} {a b : E} {x y d : D}
@[simp] theorem opB_add : opB .add (.int i) (.int j) = some (.int (i + j)) := rfl
@[simp] theorem opB_sub : opB .sub (.int i) (.int j) = some (.int (i - j)) := rfl
theorem mulOk_r (h : j.natAbs < 18446744073709551616) : mulOk i j = true := by simp [mulOk, h]
theorem mulOk_l (h : i.natAbs < 18446744073709551616) : mulOk i j = true := by simp [mulOk, h]
@[simp] theorem opB_mulr (h : j.natAbs < 18446744073709551616) : opB .mul (.int i) (.int j) = some (.int (i * j)) := by simp [opB, mulOk_r h]
theorem opB_mull (h : i.natAbs < 18446744073709551616) : opB .mul (.int i) (.int j) = some (.int (i * j)) := by simp [opB, mulOk_l h]
@[simp] theorem opB_mod (h : 0 < j) : opB .mod (.int i) (.int j) = some (.int (i % j)) := by
  have : j ≠ 0 := by omega
  simp [opB, this, Int.fmod_eq_emod_of_nonneg _ (show 0 ≤ j by omega)]
theorem divOk_s (h0 : 0 < j) (h : j < 1073741824) : divOk j = true := by
  have h1 : j ≠ 0 := by omega
  have h2 : j.natAbs < 2 ^ 30 := by omega
  simp only [divOk, h1, h2, decide_true, ne_eq, not_false_eq_true, Bool.and_self, Bool.true_or]
@[simp] theorem opB_fdiv (h0 : 0 < j) (h : j < 1073741824) : opB .fdiv (.int i) (.int j) = some (.int (i / j)) := by
  simp only [opB, divOk_s h0 h, if_true, Int.fdiv_eq_ediv_of_nonneg _ (show 0 ≤ j by omega)]
@[simp] theorem opC_gt : opC .gt (.int i) (.int j) = some (decide (j < i)) := rfl
@[simp] theorem opC_ge : opC .ge (.int i) (.int j) = some (decide (j ≤ i)) := rfl
@[simp] theorem opC_le : opC .le (.int i) (.int j) = some (decide (i ≤ j)) := rfl
@[simp] theorem opC_lt : opC .lt (.int i) (.int j) = some (decide (i < j)) := rfl
@[simp] theorem opC_eq : opC .eq (.int i) (.int j) = some (decide (i = j)) := rfl
@[simp] theorem opC_ne : opC .ne (.int i) (.int j) = some (!decide (i = j)) := rfl
@[simp] theorem opC_is : opC .is x .non = some (D.isNon x) := rfl
@[simp] theorem opC_isnt : opC .isnt x .non = some (!D.isNon x) := rfl
@[simp] theorem opU_int : opU .int (.int i) = some (.int i) := rfl
@[simp] theorem opU_intb {c : Bool} : opU .int (.bl c) = some (.int (if c then 1 else 0)) := rfl
@[simp] theorem opU_lenL {xs : List D} : opU .len (.lst xs) = some (.int xs.length) := rfl
@[simp] theorem opU_lenT {xs : List D} : opU .len (.tup xs) = some (.int xs.length) := rfl
@[simp] theorem opU_lenS {xs : List Int} : opU .len (.scr xs) = some (.int xs.length) := rfl
@[simp] theorem opU_tupL {xs : List D} : opU .tuple (.lst xs) = some (.tup xs) := rfl
@[simp] theorem opU_listT {xs : List D} : opU .list (.tup xs) = some (.lst xs) := rfl
@[simp] theorem opU_listL {xs : List D} : opU .list (.lst xs) = some (.lst xs) := rfl
@[simp] theorem opU2_max : opU2 .max (.int i) (.int j) = some (.int (max i j)) := by
  show some (D.int (if j > i then j else i)) = _
  congr 2
  by_cases h : j > i
  · rw [if_pos h]; omega
  · rw [if_neg h]; omega
@[simp] theorem opU2_min : opU2 .min (.int i) (.int j) = some (.int (min i j)) := by
  show some (D.int (if j < i then j else i)) = _
  congr 2
  by_cases h : j < i
  · rw [if_pos h]; omega
  · rw [if_neg h]; omega
@[simp] theorem opSub_tup {xs : List D} : opSub (.tup xs) (.int i) = atI xs i := rfl
@[simp] theorem opSub_lst {xs : List D} : opSub (.lst xs) (.int i) = atI xs i := rfl
@[simp] theorem opSub_scr {xs : List Int} : opSub (.scr xs) (.int i) = atI (xs.map .int) i := rfl
/-! expressions -/
theorem ev_bin {o : BO} : ev G env (.bin o a b) = (bo env a (ev G env a)).bind fun x => (bo env b (ev G env b)).bind fun y => opB o x y := rfl
@[simp] theorem truth_int : D.truth (.int i) = some (i != 0) := rfl
@[simp] theorem truth_bl {c : Bool} : D.truth (.bl c) = some c := rfl
@[simp] theorem truth_non : D.truth .non = some false := rfl
@[simp] theorem truth_lst {xs : List D} : D.truth (.lst xs) = some !xs.isEmpty := rfl
@[simp] theorem truth_tup {xs : List D} : D.truth (.tup xs) = some !xs.isEmpty := rfl
theorem ev_b1 {f : B1} {z : D} (h : bo env a (ev G env a) = some x) (hu : opU f x = some z) : ev G env (.b1 f a) = some z := by
  show (bo env a (ev G env a)).bind _ = _
  rw [h]; exact hu
theorem ev_b1c {f : B1} {z : D} {e : E} {t : T} {k : IK} {es : List E} {fs : List C} {own : List Nat} (h : ev G env (.comp e t k es fs own) = some x) (hu : opU f x = some z) : ev G env (.b1 f (.comp e t k es fs own)) = some z := ev_b1 h hu
theorem ts_val {c : Bool} (h : bo env a (ev G env a) = some x) (ht : D.truth x = some c) : ts G env (.val a) = some c := by
  show (bo env a (ev G env a)).bind D.truth = _
  rw [h]; exact ht
theorem ts_not {p : C} {c c' : Bool} (h : ts G env p = some c) (hc : c' = !c) : ts G env (.not p) = some c' := by
  show (ts G env p).map not = _
  rw [h, hc]; rfl
theorem ts_orF {p q : C} {c : Bool} (h : ts G env p = some false) (h2 : ts G env q = some c) : ts G env (.or p q) = some c := by
  show (ts G env p).bind _ = _
  rw [h]; exact h2
theorem ts_orT {p q : C} (h : ts G env p = some true) : ts G env (.or p q) = some true := by
  show (ts G env p).bind _ = _
  rw [h]; rfl
theorem ts_andT {p q : C} {c : Bool} (h : ts G env p = some true) (h2 : ts G env q = some c) : ts G env (.and p q) = some c := by
  show (ts G env p).bind _ = _
  rw [h]; exact h2
theorem ts_andF {p q : C} (h : ts G env p = some false) : ts G env (.and p q) = some false := by
  show (ts G env p).bind _ = _
  rw [h]; rfl
theorem ev_call {f : Nat} {es : List E} {ds : List D} (h : evL G env es = some ds) (hg : G f ds = some d) : ev G env (.call f es) = some d := by
  show (evL G env es).bind _ = _
  rw [h]; exact hg
theorem ev_andT {c : Bool} (h : ev G env a = some (.bl true)) (h2 : ev G env b = some (.bl c)) : ev G env (.and a b) = some (.bl c) := by
  show (ev G env a).bind _ = _
  rw [h]; exact h2
/-! statements -/
variable {ss : List S} {s : S} {n : Nat}
theorem exs_cons : exs G GI env (s :: ss) = seqS (ex G GI env s) fun e => exs G GI e ss := rfl
theorem exs_asg {e : E} (h : ev G env e = some d) : exs G GI env (.asg n e :: ss) = exs G GI (env.set n (.val d)) ss := by simp [exs, ex, h, seqS]
theorem exs_asgO {e : E} (h : ev G env e = some d) (hn : isNew e = true) : exs G GI env (.asgO n e :: ss) = exs G GI (env.set n (.own d)) ss := by simp [exs, ex, h, seqS, hn]
theorem exs_asgT {t : T} {e : E} {env' : Env} (h : ev G env e = some d) (hb : bind t d env = some env') : exs G GI env (.asgT t e :: ss) = exs G GI env' ss := by simp [exs, ex, h, seqS, hb]
theorem exs_asgP {is : List (Nat × Bool)} {es : List E} {ds : List D} {env' : Env} (h : evL G env es = some ds) (hb : stores is ds env = some env') : exs G GI env (.asgP is es :: ss) = exs G GI env' ss := by simp [exs, ex, h, seqS, hb]
theorem exs_app {e : E} {xs : List D} (ho : env.ow n = some (.lst xs)) (h : ev G env e = some d) (hl : xs.length < line) : exs G GI env (.app n e :: ss) = exs G GI (env.set n (.own (.lst (xs ++ [d])))) ss := by simp [exs, ex, h, ho, seqS, if_pos hl]
theorem exs_sset {e k : E} {v kd : D} (h : ev G env e = some v) (ho : env.ow n = some x) (hk : ev G env k = some kd) (hp : putAt x kd v = some d) : exs G GI env (.sset n k e :: ss) = exs G GI (env.set n (.own d)) ss := by simp [exs, ex, h, ho, hk, hp, seqS]
theorem exs_aug {o : BO} {e : E} (hx : env.val n = some x) (h : ev G env e = some y) (ha : opA o x y = some d) : exs G GI env (.aug n o e :: ss) = exs G GI (env.set n (.val d)) ss := by simp [exs, ex, h, hx, ha, seqS]
theorem exs_nil : exs G GI env [] = some (.nx, env) := rfl
theorem exs_frz (h : env.bor n = some d) : exs G GI env (.frz n :: ss) = exs G GI (env.set n (.val d)) ss := by simp [exs, ex, h, seqS]
theorem exs_kill {is : List Nat} : exs G GI env (.kill is :: ss) = exs G GI (env.kill is) ss := by simp [exs, ex, seqS]
theorem exs_move {m : Nat} (h : env.ow m = some d) : exs G GI env (.move n m :: ss) = exs G GI ((env.set m .unk).set n (.own d)) ss := by simp [exs, ex, h, seqS]
theorem exs_ret {e : E} (h : ev G env e = some d) : exs G GI env (.ret e :: ss) = some (.rt d, env) := by simp [exs, ex, h, seqS]
theorem exs_if {c : C} {as bs : List S} {r : Bool} (h : ts G env c = some r) : exs G GI env (.ifs c as bs :: ss) = seqS (if r then exs G GI env as else exs G GI env bs) fun e => exs G GI e ss := by simp [exs, ex, h, seqS]
theorem exs_ifT {c : C} {as bs : List S} {env' : Env} (h : ts G env c = some true) (ha : exs G GI env as = some (.nx, env')) : exs G GI env (.ifs c as bs :: ss) = exs G GI env' ss := by simp [exs, ex, h, seqS, ha]
theorem exs_ifF {c : C} {as bs : List S} {env' : Env} (h : ts G env c = some false) (ha : exs G GI env bs = some (.nx, env')) : exs G GI env (.ifs c as bs :: ss) = exs G GI env' ss := by simp [exs, ex, h, seqS, ha]
theorem exs_ifR {c : C} {as bs : List S} {env' : Env} (h : ts G env c = some true) (ha : exs G GI env as = some (.rt d, env')) : exs G GI env (.ifs c as bs :: ss) = some (.rt d, env') := by simp [exs, ex, h, seqS, ha]
/-- a test that leaves when it is not kept -/
theorem exs_skip {c : C} {as : List S} (h : ts G env c = some false) : exs G GI env (.ifs c as [] :: ss) = exs G GI env ss := exs_ifF h rfl
theorem exs_for {t : T} {k : IK} {es : List E} {bs : List S} {kl : List Nat} {vs xs : List D} {env' : Env} (h : evL G env es = some vs) (hw : walk k vs = some xs) (hf : forL (fun x e => (bind t x e).bind fun e' => exs G GI e' bs) kl xs env = some (.nx, env')) :
    exs G GI env (.for_ t k es bs kl :: ss) = exs G GI env' ss := by simp [exs, ex, h, hw, hf, seqS]
theorem exs_whl {c : C} {bs : List S} {kl : List Nat} {env' : Env} (h : whlL (fun e => ts G e c) (fun e => exs G GI e bs) kl 1000000 env = some (.nx, env')) : exs G GI env (.whl c bs kl :: ss) = exs G GI env' ss := by simp [exs, ex, h, seqS]
end
theorem run_of {defs : Nat → Option Fn} {c f : Nat} {ds : List D} {fn : Fn} {d : D} (hd : defs f = some fn) (hio : fn.io = false) (hl : ds.length = fn.ps) (h : retD (exs (run defs c) (runI defs c) (ds.map Cell.val ++ List.replicate (fn.ns - fn.ps) .unk) fn.body) = some d) : run defs (c + 1) f ds = some d := by
  show ((defs f).bind fun fn => if fn.io = false ∧ ds.length = fn.ps then retD (exs (run defs c) (runI defs c) (fn.start ds) fn.body) else none) = some d
  rw [hd]
  show (if fn.io = false ∧ ds.length = fn.ps then retD (exs (run defs c) (runI defs c) (fn.start ds) fn.body) else none) = some d
  rw [if_pos ⟨hio, hl⟩, ← h]
  unfold Fn.start
  rw [hio]
section
variable {G : Nat → List D → Option D} {env : Env} {a b c : E} {p q : C}
@[simp] theorem se_var {i : Nat} : ev G env (.var i) = env.val i := by rw [ev]
@[simp] theorem se_int {n : Int} : ev G env (.int n) = some (.int n) := by rw [ev]
@[simp] theorem se_bl {n : Bool} : ev G env (.bl n) = some (.bl n) := by rw [ev]
@[simp] theorem se_non : ev G env .non = some .non := by rw [ev]
@[simp] theorem se_bin {o : BO} : ev G env (.bin o a b) = (bo env a (ev G env a)).bind fun x => (bo env b (ev G env b)).bind fun y => opB o x y := by rw [ev]
def negF : D → Option D | .int i => some (.int (-i)) | _ => none
def andF (r : Option D) : D → Option D | .bl c => if c then r else some (.bl false) | _ => none
def orF (r : Option D) : D → Option D | .bl c => if c then some (.bl true) else r | _ => none
@[simp] theorem negF_int {i : Int} : negF (.int i) = some (.int (-i)) := by rw [negF]
@[simp] theorem andF_bl {r : Option D} {c : Bool} : andF r (.bl c) = if c then r else some (.bl false) := by rw [andF]
@[simp] theorem orF_bl {r : Option D} {c : Bool} : orF r (.bl c) = if c then some (.bl true) else r := by rw [orF]
@[simp] theorem se_neg : ev G env (.neg a) = (ev G env a).bind negF := by rw [ev]; congr 1
@[simp] theorem se_not : ev G env (.not a) = (bo env a (ev G env a)).bind fun x => (D.truth x).map fun c => .bl (!c) := by rw [ev]
@[simp] theorem se_and : ev G env (.and a b) = (ev G env a).bind (andF (ev G env b)) := by rw [ev]; congr 1
@[simp] theorem se_or : ev G env (.or a b) = (ev G env a).bind (orF (ev G env b)) := by rw [ev]; congr 1
@[simp] theorem se_cmp {o : CO} : ev G env (.cmp o a b) = (bo env a (ev G env a)).bind fun x => (bo env b (ev G env b)).bind fun y => (opC o x y).map .bl := by rw [ev]
@[simp] theorem se_chn {o o' : CO} : ev G env (.chn o o' a b c) = (ev G env a).bind fun x => (ev G env b).bind fun y => (opC o x y).bind fun r => if r then (ev G env c).bind fun z => (opC o' y z).map .bl else some (.bl false) := by rw [ev]
@[simp] theorem se_ife : ev G env (.ife p a b) = (ts G env p).bind fun r => if r then ev G env a else ev G env b := by rw [ev]
@[simp] theorem se_sub : ev G env (.sub a b) = (bo env a (ev G env a)).bind fun x => (ev G env b).bind fun y => opSub x y := by rw [ev]
@[simp] theorem se_slo : ev G env (.slo a b) = (bo env a (ev G env a)).bind fun x => (ev G env b).bind fun y => opLo x y := by rw [ev]
@[simp] theorem se_shi : ev G env (.shi a b) = (bo env a (ev G env a)).bind fun x => (ev G env b).bind fun y => opHi x y := by rw [ev]
@[simp] theorem se_b1 {f : B1} : ev G env (.b1 f a) = (bo env a (ev G env a)).bind fun x => opU f x := by rw [ev]
@[simp] theorem se_b2 {f : B2} : ev G env (.b2 f a b) = (bo env a (ev G env a)).bind fun x => (ev G env b).bind fun y => opU2 f x y := by rw [ev]
theorem se_call {f : Nat} {es : List E} : ev G env (.call f es) = (evL G env es).bind fun xs => G f xs := by rw [ev]
@[simp] theorem se_nil : evL G env [] = some [] := by rw [evL]
@[simp] theorem se_cons {es : List E} : evL G env (a :: es) = (ev G env a).bind fun x => (evL G env es).map (x :: ·) := by rw [evL]
@[simp] theorem sb_nil : evB G env [] = some [] := by rw [evB]
@[simp] theorem sb_cons {es : List E} : evB G env (a :: es) = (bo env a (ev G env a)).bind fun x => (evB G env es).map (x :: ·) := by rw [evB]
@[simp] theorem st_not : ts G env (.not p) = (ts G env p).map not := by rw [ts]
@[simp] theorem st_and : ts G env (.and p q) = (ts G env p).bind fun c => if c then ts G env q else some false := by rw [ts]
@[simp] theorem st_or : ts G env (.or p q) = (ts G env p).bind fun c => if c then some true else ts G env q := by rw [ts]
@[simp] theorem st_val : ts G env (.val a) = (bo env a (ev G env a)).bind D.truth := by rw [ts]
@[simp] theorem sl_nil : tsL G env [] = some true := by rw [tsL]
@[simp] theorem sl_cons {ps : List C} : tsL G env (p :: ps) = (ts G env p).bind fun c => if c then tsL G env ps else some false := by rw [tsL]
theorem ev_lst {es : List E} {xs : List D} (h : evL G env es = some xs) (hl : xs.length ≤ line) : ev G env (.lst es) = some (.lst xs) := by
  show (evL G env es).bind fits = _
  rw [h]; exact fits_of hl
theorem ev_tup {es : List E} {xs : List D} (h : evL G env es = some xs) (hl : xs.length ≤ line) : ev G env (.tup es) = some (.tup xs) := by
  show (evL G env es).bind _ = _
  rw [h]; exact if_pos hl
theorem line_pos {n : Nat} (h : n ≤ 16777216) : n ≤ line := h
theorem ev_bin_of {o : BO} {x y z : D} (ha : bo env a (ev G env a) = some x) (hb : bo env b (ev G env b) = some y) (h : opB o x y = some z) : ev G env (.bin o a b) = some z := by
  show (bo env a (ev G env a)).bind _ = _
  rw [ha]
  show (bo env b (ev G env b)).bind _ = _
  rw [hb]; exact h
theorem ev_lst0 : ev G env (.lst []) = some (.lst []) := ev_lst se_nil (line_pos (Nat.zero_le _))
theorem ev_lst1 {x : D} (h : ev G env a = some x) : ev G env (.lst [a]) = some (.lst [x]) := ev_lst (by simp [h]) (line_pos (by simp))
@[simp] theorem bo_var {i : Nat} {r : Option D} : bo env (.var i) r = env.bor i := by rw [bo]
theorem bo_oth {r : Option D} (h : ∀ i, a ≠ .var i) : bo env a r = r := by cases a <;> first | rfl | exact absurd rfl (h _)
@[simp] theorem bo_int {n : Int} {r : Option D} : bo env (.int n) r = r := bo_oth (by simp)
@[simp] theorem bo_bl {n : Bool} {r : Option D} : bo env (.bl n) r = r := bo_oth (by simp)
@[simp] theorem bo_non {r : Option D} : bo env .non r = r := bo_oth (by simp)
@[simp] theorem bo_bin {o : BO} {r : Option D} : bo env (.bin o a b) r = r := bo_oth (by simp)
@[simp] theorem bo_neg {r : Option D} : bo env (.neg a) r = r := bo_oth (by simp)
@[simp] theorem bo_not {r : Option D} : bo env (.not a) r = r := bo_oth (by simp)
@[simp] theorem bo_and {r : Option D} : bo env (.and a b) r = r := bo_oth (by simp)
@[simp] theorem bo_or {r : Option D} : bo env (.or a b) r = r := bo_oth (by simp)
@[simp] theorem bo_cmp {o : CO} {r : Option D} : bo env (.cmp o a b) r = r := bo_oth (by simp)
@[simp] theorem bo_chn {o o' : CO} {r : Option D} : bo env (.chn o o' a b c) r = r := bo_oth (by simp)
@[simp] theorem bo_ife {r : Option D} : bo env (.ife p a b) r = r := bo_oth (by simp)
@[simp] theorem bo_sub {r : Option D} : bo env (.sub a b) r = r := bo_oth (by simp)
@[simp] theorem bo_slo {r : Option D} : bo env (.slo a b) r = r := bo_oth (by simp)
@[simp] theorem bo_shi {r : Option D} : bo env (.shi a b) r = r := bo_oth (by simp)
@[simp] theorem bo_b1 {f : B1} {r : Option D} : bo env (.b1 f a) r = r := bo_oth (by simp)
@[simp] theorem bo_b2 {f : B2} {r : Option D} : bo env (.b2 f a b) r = r := bo_oth (by simp)
@[simp] theorem bo_call {f : Nat} {es : List E} {r : Option D} : bo env (.call f es) r = r := bo_oth (by simp)
@[simp] theorem bo_lst {es : List E} {r : Option D} : bo env (.lst es) r = r := bo_oth (by simp)
@[simp] theorem bo_tup {es : List E} {r : Option D} : bo env (.tup es) r = r := bo_oth (by simp)
@[simp] theorem bo_comp {e : E} {t : T} {k : IK} {es : List E} {fs : List C} {own : List Nat} {r : Option D} : bo env (.comp e t k es fs own) r = r := bo_oth (by simp)
end
section
variable {env env' : Env} {i : Nat} {is : List Nat} {d : D} {ds xs : List D} {t : T} {ts : List T} {n : Int} {c : Bool}
@[simp] theorem x_val : Env.val env i = (match env[i]? with | some (.val d) => some d | _ => none) := rfl
@[simp] theorem x_bor : Env.bor env i = (match env[i]? with | some (.val d) => some d | some (.own d) => some d | _ => none) := rfl
@[simp] theorem x_ow : Env.ow env i = (match env[i]? with | some (.own d) => some d | _ => none) := rfl
@[simp] theorem x_kill0 : Env.kill env [] = env := by rw [Env.kill]
@[simp] theorem x_kill1 : Env.kill env (i :: is) = Env.kill (env.set i .unk) is := by rw [Env.kill]
@[simp] theorem x_bindN : bind (.name i) d env = some (env.set i (.val d)) := by rw [bind]
@[simp] theorem x_bindT : bind (.tup ts) (.tup ds) env = bindL ts ds env := by rw [bind]
@[simp] theorem x_bindL : bind (.tup ts) (.lst ds) env = bindL ts ds env := by rw [bind]
@[simp] theorem x_bindL0 : bindL [] [] env = some env := by rw [bindL]
@[simp] theorem x_bindL1 : bindL (t :: ts) (d :: ds) env = (bind t d env).bind fun e => bindL ts ds e := by rw [bindL]
@[simp] theorem x_stores0 : stores [] [] env = some env := by rw [stores]
@[simp] theorem x_stores1 {o : Bool} {js : List (Nat × Bool)} : stores ((i, o) :: js) (d :: ds) env = stores js ds (env.set i (if o then .own d else .val d)) := by rw [stores]
@[simp] theorem x_non : D.isNon .non = true := rfl
@[simp] theorem x_nonI : D.isNon (.int n) = false := rfl
@[simp] theorem x_nonB : D.isNon (.bl c) = false := rfl
@[simp] theorem x_nonT : D.isNon (.tup xs) = false := rfl
@[simp] theorem x_nonL : D.isNon (.lst xs) = false := rfl
@[simp] theorem x_keyI : isKey false (.int n) = true := rfl
end

/-! ### common defs -/
/-- 2: 0 first 1 second -/
def f_divisor : Fn := ⟨2, 2, false, [
  .whl (.val (.cmp .gt (.var 1) (.int 0))) [.asgP [(0, false), (1, false)] [(.var 1), (.bin .mod (.var 0) (.var 1))]] [],
  .ret (.var 0)]⟩
/-- 7: 0 script 1 k 2 cell 3 first 4 second 5 third -/
def f_law_mixed : Fn := ⟨2, 6, false, [
  .asg 2 (.int 0),
  .ifs (.val (.cmp .gt (.b1 .len (.var 0)) (.int 0))) [.asg 2 (.sub (.var 0) (.bin .mod (.var 1) (.b1 .len (.var 0))))] [],
  .asg 3 (.bin .mod (.b1 .int (.bin .add (.bin .add (.bin .mul (.var 2) (.int 48271)) (.bin .mul (.var 1) (.int 69621))) (.int 8191))) (.int 2147483647)),
  .asg 4 (.bin .mod (.b1 .int (.bin .add (.bin .add (.bin .mul (.var 3) (.var 3)) (.bin .fdiv (.var 3) (.int 7))) (.bin .mul (.var 1) (.int 16807)))) (.int 2147483629)),
  .asg 5 (.bin .mod (.b1 .int (.bin .add (.bin .add (.bin .mul (.var 4) (.var 4)) (.bin .fdiv (.var 4) (.int 11))) (.int 40692))) (.int 2147483563)),
  .ret (.bin .mod (.bin .fdiv (.var 5) (.int 5)) (.int 1000003))]⟩
/-- 8: 0 script 1 many 2 big 3 row 4 k -/
def f_law_row : Fn := ⟨2, 5, false, [
  .asg 2 (.int 0),
  .ifs (.and (.val (.cmp .gt (.b1 .len (.var 0)) (.int 0))) (.val (.cmp .ge (.sub (.var 0) (.int 0)) (.bin .pow (.int 10) (.int 18))))) [.asg 2 (.sub (.var 0) (.int 0))] [],
  .asgO 3 (.lst []),
  .for_ (.name 4) .r1 [(.var 1)] [.ifs (.val (.cmp .gt (.var 2) (.int 0))) [.app 3 (.bin .mod (.b1 .int (.var 2)) (.int 1000)), .asg 2 (.bin .fdiv (.var 2) (.int 1000))] [.app 3 (.call 7 [(.var 0), (.var 4)])]] [4],
  .frz 3,
  .ret (.var 3)]⟩
/-- 9: 0 value -/
def f_law_is_int : Fn := ⟨1, 1, false, [
  .ret (.and (.b1 .isInt (.var 0)) (.not (.b1 .isBool (.var 0))))]⟩
/-- 10: 0 value 1 due 2 k -/
def f_law_like : Fn := ⟨2, 3, false, [
  .ifs (.val (.cmp .is (.var 1) .non)) [.ret (.cmp .is (.var 0) .non)] [],
  .ifs (.val (.b1 .isBool (.var 1))) [.ret (.and (.b1 .isBool (.var 0)) (.cmp .eq (.var 0) (.var 1)))] [],
  .ifs (.val (.b1 .isTup (.var 1))) [.ifs (.or (.not (.val (.b1 .isTup (.var 0)))) (.val (.cmp .ne (.b1 .len (.var 0)) (.b1 .len (.var 1))))) [.ret (.bl false)] [], .ret (.b1 .all (.comp (.call 10 [(.sub (.var 0) (.var 2)), (.sub (.var 1) (.var 2))]) (.name 2) .r1 [(.b1 .len (.var 1))] [] [2]))] [],
  .ifs (.val (.b1 .isStr (.var 1))) [.ret (.and (.b1 .isStr (.var 0)) (.cmp .eq (.var 0) (.var 1)))] [],
  .ret (.and (.call 9 [(.var 0)]) (.cmp .eq (.var 0) (.var 1)))]⟩
mutual
/-- None, truth values, ints and tuples of them -/
def D.simple : D → Bool
  | .non => true | .bl _ => true | .int _ => true
  | .tup xs => D.simpleL xs && decide (xs.length ≤ 100000)
  | _ => false
def D.simpleL : List D → Bool
  | [] => true
  | x :: xs => D.simple x && D.simpleL xs
end
theorem simpleL_mem : ∀ {xs : List D}, D.simpleL xs = true → ∀ x ∈ xs, D.simple x = true
  | y :: ys, h, x, hx => by
    simp only [D.simpleL, Bool.and_eq_true] at h
    rcases List.mem_cons.mp hx with rfl | hx
    · exact h.1
    · exact simpleL_mem h.2 x hx
theorem depthL_mem : ∀ {xs : List D} {x : D}, x ∈ xs → D.depth x ≤ D.depthL xs
  | y :: ys, x, hx => by
    rw [D.depthL]
    rcases List.mem_cons.mp hx with rfl | hx
    · omega
    · have := depthL_mem hx; omega
theorem walk_r1 {n : Nat} (h : n < 4611686018427387904) : walk .r1 [.int n] = some (rgD 0 n) := by
  simp only [walk]
  rw [if_pos ⟨by omega, by omega⟩]; simp
theorem bools_true (n : Nat) : D.bools (List.replicate n (.bl true)) = some (List.replicate n true) := by
  induction n with
  | zero => rfl
  | succ n ih => rw [List.replicate_succ, D.bools, ih]; rfl
theorem all_true (n : Nat) : opU .all (.lst (List.replicate n (.bl true))) = some (.bl true) := by
  show (D.bools _).map _ = _
  rw [bools_true]; simp
/-- all of a list of tests that hold -/
theorem all_map {α : Type} (xs : List α) (g : α → D) (h : ∀ x ∈ xs, g x = .bl true) : opU .all (.lst (xs.map g)) = some (.bl true) := by
  have : xs.map g = List.replicate xs.length (.bl true) := by
    rw [List.eq_replicate_iff]
    refine ⟨by simp, fun b hb => ?_⟩
    obtain ⟨x, hx, rfl⟩ := List.mem_map.mp hb
    exact h x hx
  rw [this]; exact all_true _
theorem bools_map' {α : Type} (xs : List α) (g : α → Bool) : D.bools (xs.map fun x => .bl (g x)) = some (xs.map g) := by
  induction xs with
  | nil => rfl
  | cons x xs ih => rw [List.map_cons, D.bools, ih]; rfl
theorem all_bl {α : Type} (xs : List α) (g : α → Bool) : opU .all (.lst (xs.map fun x => .bl (g x))) = some (.bl (xs.all g)) := by
  show (D.bools _).map _ = _
  rw [bools_map']
  simp [Function.comp_def]
theorem any_bl {α : Type} (xs : List α) (g : α → Bool) : opU .any (.lst (xs.map fun x => .bl (g x))) = some (.bl (xs.any g)) := by
  show (D.bools _).map _ = _
  rw [bools_map']
  simp [Function.comp_def]
section
variable {G : Nat → List D → Option D} {env : Env}
/-- a comprehension without tests -/
theorem ev_comp {e : E} {t : T} {k : IK} {es : List E} {own : List Nat} {vs xs : List D} (g : D → D) (h : evB G env es = some vs) (hw : walk k vs = some xs) (hl : xs.length ≤ line)
    (hg : ∀ x ∈ xs, ∃ env', bind t x (env.kill own) = some env' ∧ ev G env' e = some (g x)) : ev G env (.comp e t k es [] own) = some (.lst (xs.map g)) := by
  unfold ev
  rw [h]
  show (walk k vs).bind _ = _
  rw [hw]
  show (compL _ xs).bind fits = _
  rw [compL_map g fun x hx => by
    obtain ⟨env', h1, h2⟩ := hg x hx
    simp [h1, h2, tsL]]
  exact fits_of (by simpa using hl)
/-- with a test -/
theorem ev_compF {e : E} {t : T} {k : IK} {es : List E} {c : C} {own : List Nat} {vs xs : List D} (g : D → D) (p : D → Bool) (h : evB G env es = some vs) (hw : walk k vs = some xs) (hl : xs.length ≤ line)
    (hg : ∀ x ∈ xs, ∃ env', bind t x (env.kill own) = some env' ∧ ts G env' c = some (p x) ∧ (p x = true → ev G env' e = some (g x))) : ev G env (.comp e t k es [c] own) = some (.lst ((xs.filter p).map g)) := by
  unfold ev
  rw [h]
  show (walk k vs).bind _ = _
  rw [hw]
  show (compL _ xs).bind fits = _
  rw [compL_fm (fun x => if p x then some (g x) else none) fun x hx => by
    obtain ⟨env', h1, h2, h3⟩ := hg x hx
    cases hp : p x with
    | false => simp [h1, h2, hp, tsL]
    | true => simp [h1, h2, hp, h3 hp, tsL]]
  have : (xs.filterMap fun x => if p x then some (g x) else none) = (xs.filter p).map g := by
    clear hl hw hg
    induction xs with
    | nil => rfl
    | cons x xs ih => rw [List.filterMap_cons, List.filter_cons]; cases p x <;> simp [ih]
  rw [Option.bind_some, this]
  exact fits_of (by simpa using Nat.le_trans (List.length_filter_le p xs) hl)
end
section
variable {defs : Nat → Option Fn}
theorem run_mixed (h : defs 7 = some f_law_mixed) (c : Nat) (ns : List Int) (k : Nat) (hk : k < 1000) : ∃ v : Int, 0 ≤ v ∧ v < 1000003 ∧ run defs (c + 1) 7 [.scr ns, .int k] = some (.int v) := by
  have key : ∀ cell : Int, ∃ v : Int, 0 ≤ v ∧ v < 1000003 ∧ retD (exs (run defs c) (runI defs c) [.val (.scr ns), .val (.int k), .val (.int cell), .unk, .unk, .unk] (f_law_mixed.body.drop 2)) = some (.int v) := by
    intro cell
    have e1 : ∃ a : Int, 0 ≤ a ∧ a < 2147483647 ∧ a = (cell * 48271 + k * 69621 + 8191) % 2147483647 := ⟨_, by omega, by omega, rfl⟩
    obtain ⟨a, a0, a1, ea⟩ := e1
    have e2 : ∃ b : Int, 0 ≤ b ∧ b < 2147483629 ∧ b = (a * a + a / 7 + k * 16807) % 2147483629 := ⟨_, by omega, by omega, rfl⟩
    obtain ⟨b, b0, b1, eb⟩ := e2
    have e3 : ∃ d : Int, 0 ≤ d ∧ d < 2147483563 ∧ d = (b * b + b / 11 + 40692) % 2147483563 := ⟨_, by omega, by omega, rfl⟩
    obtain ⟨d, d0, d1, ed⟩ := e3
    refine ⟨d / 5 % 1000003, by omega, by omega, ?_⟩
    show retD (exs _ _ _ [_, _, _, _]) = _
    have ma : a.natAbs < 18446744073709551616 := by omega
    have mb : b.natAbs < 18446744073709551616 := by omega
    rw [exs_asg (d := .int a) (by simp [ea])]
    rw [exs_asg (d := .int b) (by simp [ma, eb])]
    rw [exs_asg (d := .int d) (by simp [mb, ed])]
    rw [exs_ret (d := .int (d / 5 % 1000003)) (by simp)]
    rfl
  have cellv : ∃ cell : Int, exs (run defs c) (runI defs c) [.val (.scr ns), .val (.int k), .val (.int 0), .unk, .unk, .unk] (f_law_mixed.body.drop 1) = exs (run defs c) (runI defs c) [.val (.scr ns), .val (.int k), .val (.int cell), .unk, .unk, .unk] (f_law_mixed.body.drop 2) := by
    cases ns with
    | nil => exact ⟨0, exs_skip (by simp)⟩
    | cons n ns =>
      have hj : k % (n :: ns).length < (n :: ns).length := Nat.mod_lt _ (by simp)
      refine ⟨(n :: ns)[k % (n :: ns).length], exs_ifT (by simp) ?_⟩
      refine (exs_asg (d := .int ((n :: ns)[k % (n :: ns).length])) ?_).trans rfl
      have hp : (0 : Int) < ((n :: ns).length : Int) := by simp
      have e : ((k : Int) % ((n :: ns).length : Int)) = ((k % (n :: ns).length : Nat) : Int) := by omega
      have h1 : opB .mod (.int k) (.int (n :: ns).length) = some (.int ((k % (n :: ns).length : Nat) : Int)) := by rw [opB_mod hp, e]
      have h2 : opSub (.scr (n :: ns)) (.int ((k % (n :: ns).length : Nat) : Int)) = some (.int ((n :: ns)[k % (n :: ns).length])) := atI_map hj
      show (opB .mod (.int k) (.int (n :: ns).length)).bind (fun y => opSub (.scr (n :: ns)) y) = _
      rw [h1]; exact h2
  obtain ⟨cell, hc⟩ := cellv
  obtain ⟨v, v0, v1, hv⟩ := key cell
  refine ⟨v, v0, v1, run_of h rfl rfl ?_⟩
  rw [← hv, ← hc]
  rfl
theorem run_row (h7 : defs 7 = some f_law_mixed) (h8 : defs 8 = some f_law_row) (c : Nat) (ns : List Int) (many : Nat) (hm : many < 1000) : ∃ vs : List Int, vs.length = many ∧ (∀ v ∈ vs, 0 ≤ v ∧ v < 1000003) ∧ run defs (c + 2) 8 [.scr ns, .int many] = some (.lst (vs.map .int)) := by
  have h1 : ∃ big : Int, exs (run defs (c + 1)) (runI defs (c + 1)) [.val (.scr ns), .val (.int many), .val (.int 0), .unk, .unk] (f_law_row.body.drop 1) = exs (run defs (c + 1)) (runI defs (c + 1)) [.val (.scr ns), .val (.int many), .val (.int big), .unk, .unk] (f_law_row.body.drop 2) := by
    cases ns with
    | nil => exact ⟨0, exs_skip (by simp)⟩
    | cons n ns =>
      have hz : opSub (.scr (n :: ns)) (.int 0) = some (.int n) := atI_map (f := D.int) (xs := n :: ns) (i := 0) (by simp)
      have hp : opB .pow (.int 10) (.int 18) = some (.int 1000000000000000000) := by simp [opB]
      have hz' : atI (D.int n :: List.map D.int ns) 0 = some (.int n) := atI_map (f := D.int) (xs := n :: ns) (i := 0) (by simp)
      by_cases hb : (1000000000000000000 : Int) ≤ n
      · exact ⟨n, exs_ifT (by simp [hz, hz', hp, hb]) ((exs_asg (d := .int n) (by simp [hz, hz'])).trans rfl)⟩
      · exact ⟨0, exs_skip (by simp [hz, hz', hp, hb])⟩
  obtain ⟨big, hb⟩ := h1
  have hl := forL_turns (step := fun x e => (bind (.name 4) x e).bind fun e' => exs (run defs (c + 1)) (runI defs (c + 1)) e' [.ifs (.val (.cmp .gt (.var 2) (.int 0))) [.app 3 (.bin .mod (.b1 .int (.var 2)) (.int 1000)), .asg 2 (.bin .fdiv (.var 2) (.int 1000))] [.app 3 (.call 7 [(.var 0), (.var 4)])]]) (kl := [4])
    (fun i e => i ≤ many ∧ ∃ (big : Int) (vs : List Int), vs.length = i ∧ (∀ v ∈ vs, 0 ≤ v ∧ v < 1000003) ∧ e = [.val (.scr ns), .val (.int many), .val (.int big), .own (.lst (vs.map .int)), .unk])
    (xs := rgD 0 many) (env := [.val (.scr ns), .val (.int many), .val (.int big), .own (.lst []), .unk]) 0 ⟨Nat.zero_le _, big, [], rfl, by simp, rfl⟩
    (fun i x e hx ⟨_, big, vs, hv, hr, he⟩ => by
      have hi : i < many := by
        have := (List.getElem?_eq_some_iff.mp hx).1
        simpa [rgD] using this
      have hx' : x = .int i := by
        rw [rgD, List.getElem?_map, List.getElem?_range hi] at hx
        simpa using hx.symm
      subst he hx'
      have hlt : (vs.map D.int).length < line := by simp; show _ < 16777216; omega
      by_cases hb : (0 : Int) < big
      · refine ⟨[.val (.scr ns), .val (.int many), .val (.int (big / 1000)), .own (.lst ((vs ++ [big % 1000]).map .int)), .val (.int i)], ?_, by omega, big / 1000, vs ++ [big % 1000], by simp; omega, fun v hv => ?_, rfl⟩
        · show exs _ _ [_, _, _, _, _] _ = _
          refine exs_ifT (by simp [hb]) ?_
          rw [exs_app (xs := vs.map .int) (d := .int (big % 1000)) (by simp) (by simp) hlt]
          rw [exs_asg (d := .int (big / 1000)) (by simp)]
          simp [exs_nil]
        · rcases List.mem_append.mp hv with hv | hv
          · exact hr v hv
          · simp at hv; omega
      · obtain ⟨v, v0, v1, hrun⟩ := run_mixed h7 c ns i (by omega)
        refine ⟨[.val (.scr ns), .val (.int many), .val (.int big), .own (.lst ((vs ++ [v]).map .int)), .val (.int i)], ?_, by omega, big, vs ++ [v], by simp; omega, fun w hw => ?_, rfl⟩
        · show exs _ _ [_, _, _, _, _] _ = _
          refine exs_ifF (by simp [hb]) ?_
          rw [exs_app (xs := vs.map .int) (d := .int v) (by simp) (ev_call (ds := [.scr ns, .int i]) (by simp) hrun) hlt]
          simp [exs_nil]
        · rcases List.mem_append.mp hw with hw | hw
          · exact hr w hw
          · simp at hw; subst hw; exact ⟨v0, v1⟩)
    (fun e ⟨hi, big, vs, h1, h2, h3⟩ => ⟨hi, big, vs, h1, h2, by subst h3; rfl⟩)
  obtain ⟨e', hf, _, big', vs, hv, hr, rfl⟩ := hl
  refine ⟨vs, by simpa [rgD] using hv, hr, run_of h8 rfl rfl ?_⟩
  show retD (exs _ _ [.val (.scr ns), .val (.int many), .unk, .unk, .unk] (.asg 2 (.int 0) :: f_law_row.body.drop 1)) = _
  rw [exs_asg (d := .int 0) rfl]
  show retD (exs _ _ [.val (.scr ns), .val (.int many), .val (.int 0), .unk, .unk] (f_law_row.body.drop 1)) = _
  rw [hb]
  show retD (exs _ _ _ (.asgO 3 (.lst []) :: f_law_row.body.drop 3)) = _
  rw [exs_asgO (d := .lst []) ev_lst0 rfl]
  show retD (exs _ _ [.val (.scr ns), .val (.int many), .val (.int big), .own (.lst []), .unk] (.for_ _ _ _ _ _ :: f_law_row.body.drop 4)) = _
  rw [exs_for (vs := [.int many]) (by simp) (walk_r1 (by omega)) hf]
  show retD (exs _ _ _ [.frz 3, .ret (.var 3)]) = _
  rw [exs_frz (d := .lst (vs.map .int)) (by simp), exs_ret (d := .lst (vs.map .int)) (by simp)]
  rfl
theorem run_is_int (h9 : defs 9 = some f_law_is_int) (c : Nat) (i : Int) : run defs (c + 1) 9 [.int i] = some (.bl true) := by
  refine run_of h9 rfl rfl ?_
  show retD (exs _ _ _ [.ret _]) = _
  rw [exs_ret (d := .bl true) (by simp [opU])]
  rfl
theorem like_self (h9 : defs 9 = some f_law_is_int) (h10 : defs 10 = some f_law_like) (c : Nat) : ∀ (m : Nat) (x : D), D.simple x = true → D.depth x ≤ m → run defs (c + m + 2) 10 [x, x] = some (.bl true) := by
  intro m
  induction m with
  | zero =>
    intro x hs hd
    refine run_of h10 rfl rfl ?_
    cases x with
    | non => show retD (exs _ _ [.val .non, .val .non, .unk] (.ifs _ _ [] :: _)) = _; rw [exs_ifR (d := .bl true) (by simp) (exs_ret (by simp))]; rfl
    | bl b =>
      show retD (exs _ _ [.val (.bl b), .val (.bl b), .unk] (.ifs _ _ [] :: .ifs _ _ [] :: _)) = _
      rw [exs_skip (by simp), exs_ifR (d := .bl true) (by simp [opU]) (exs_ret (by simp [opU, opC, D.plain, D.depth, D.eqb]))]; rfl
    | int i =>
      show retD (exs _ _ [.val (.int i), .val (.int i), .unk] (.ifs _ _ [] :: .ifs _ _ [] :: .ifs _ _ [] :: .ifs _ _ [] :: [.ret _])) = _
      rw [exs_skip (by simp), exs_skip (by simp [opU]), exs_skip (by simp [opU]), exs_skip (by simp [opU]), exs_ret (d := .bl true) (ev_andT (ev_call (ds := [.int i]) (by simp) (run_is_int h9 _ i)) (by simp))]; rfl
    | tup xs => simp [D.depth] at hd
    | lst xs => simp [D.simple] at hs
    | dic t kvs => simp [D.simple] at hs
    | rng a b => simp [D.simple] at hs
    | scr a => simp [D.simple] at hs
  | succ m ih =>
    intro x hs hd
    refine run_of h10 rfl rfl ?_
    cases x with
    | non => show retD (exs _ _ [.val .non, .val .non, .unk] (.ifs _ _ [] :: _)) = _; rw [exs_ifR (d := .bl true) (by simp) (exs_ret (by simp))]; rfl
    | bl b =>
      show retD (exs _ _ [.val (.bl b), .val (.bl b), .unk] (.ifs _ _ [] :: .ifs _ _ [] :: _)) = _
      rw [exs_skip (by simp), exs_ifR (d := .bl true) (by simp [opU]) (exs_ret (by simp [opU, opC, D.plain, D.depth, D.eqb]))]; rfl
    | int i =>
      show retD (exs _ _ [.val (.int i), .val (.int i), .unk] (.ifs _ _ [] :: .ifs _ _ [] :: .ifs _ _ [] :: .ifs _ _ [] :: [.ret _])) = _
      rw [exs_skip (by simp), exs_skip (by simp [opU]), exs_skip (by simp [opU]), exs_skip (by simp [opU]), exs_ret (d := .bl true) (ev_andT (ev_call (ds := [.int i]) (by simp) (run_is_int h9 _ i)) (by simp))]; rfl
    | tup xs =>
      simp only [D.simple, Bool.and_eq_true, decide_eq_true_eq] at hs
      simp only [D.depth] at hd
      have hl : xs.length ≤ 100000 := hs.2
      show retD (exs _ _ [.val (.tup xs), .val (.tup xs), .unk] (.ifs _ _ [] :: .ifs _ _ [] :: .ifs _ _ [] :: _)) = _
      rw [exs_skip (by simp), exs_skip (by simp [opU]), exs_ifR (d := .bl true) (env' := [.val (.tup xs), .val (.tup xs), .unk]) (by simp [opU]) ?_]
      · rfl
      rw [exs_skip (by simp [opU])]
      refine exs_ret ?_
      have hc := ev_comp (G := run defs (c + (m + 1) + 1)) (env := [.val (.tup xs), .val (.tup xs), .unk]) (e := .call 10 [(.sub (.var 0) (.var 2)), (.sub (.var 1) (.var 2))]) (t := .name 2) (k := .r1) (es := [.b1 .len (.var 1)]) (own := [2]) (vs := [.int xs.length]) (xs := rgD 0 xs.length) (fun _ => .bl true) (by simp) (walk_r1 (by omega)) (by simp [rgD]; show _ ≤ 16777216; omega)
        (fun x hx => by
          obtain ⟨i, hi, rfl⟩ := mem_rgD hx
          have hat : atI xs (i : Int) = some xs[i] := atI_nat (List.getElem?_eq_getElem hi)
          have hm := List.getElem_mem hi
          have := ih xs[i] (simpleL_mem hs.1 _ hm) (by have := depthL_mem hm; omega)
          refine ⟨_, rfl, ?_⟩
          exact ev_call (ds := [xs[i], xs[i]]) (by simp [hat]) this)
      exact ev_b1c hc (all_map _ _ fun _ _ => rfl)
    | lst xs => simp [D.simple] at hs
    | dic t kvs => simp [D.simple] at hs
    | rng a b => simp [D.simple] at hs
    | scr a => simp [D.simple] at hs
/-- Euclid -/
theorem whl_gcd {G GI : Nat → List D → Option D} : ∀ (k a b m : Nat), b < 2 ^ k → 2 * k + 1 ≤ m →
    whlL (fun e => ts G e (.val (.cmp .gt (.var 1) (.int 0)))) (fun e => exs G GI e [.asgP [(0, false), (1, false)] [(.var 1), (.bin .mod (.var 0) (.var 1))]]) [] m [.val (.int a), .val (.int b)] = some (.nx, [.val (.int (Nat.gcd a b : Nat)), .val (.int 0)]) := by
  have fin : ∀ (a m : Nat), 1 ≤ m → whlL (fun e => ts G e (.val (.cmp .gt (.var 1) (.int 0)))) (fun e => exs G GI e [.asgP [(0, false), (1, false)] [(.var 1), (.bin .mod (.var 0) (.var 1))]]) [] m [.val (.int a), .val (.int (0 : Nat))] = some (.nx, [.val (.int (Nat.gcd a 0 : Nat)), .val (.int 0)]) := by
    intro a m hm
    obtain ⟨m, rfl⟩ : ∃ j, m = j + 1 := ⟨m - 1, by omega⟩
    rw [whlL]
    simp
  have one : ∀ (a b m : Nat), 0 < b → whlL (fun e => ts G e (.val (.cmp .gt (.var 1) (.int 0)))) (fun e => exs G GI e [.asgP [(0, false), (1, false)] [(.var 1), (.bin .mod (.var 0) (.var 1))]]) [] (m + 1) [.val (.int a), .val (.int b)]
      = whlL (fun e => ts G e (.val (.cmp .gt (.var 1) (.int 0)))) (fun e => exs G GI e [.asgP [(0, false), (1, false)] [(.var 1), (.bin .mod (.var 0) (.var 1))]]) [] m [.val (.int b), .val (.int (a % b : Nat))] := by
    intro a b m hb
    have hb' : (0 : Int) < b := by omega
    rw [whlL]
    rw [exs_asgP (ds := [.int b, .int (a % b : Nat)]) (env' := [.val (.int b), .val (.int (a % b : Nat))]) (by simp [opB_mod hb']) (by simp)]
    simp [hb, exs_nil]
  intro k
  induction k with
  | zero =>
    intro a b m hb hm
    obtain rfl : b = 0 := by simpa using hb
    exact fin a m (by omega)
  | succ k ih =>
    intro a b m hb hm
    by_cases h0 : b = 0
    · subst h0; exact fin a m (by omega)
    · obtain ⟨m, rfl⟩ : ∃ j, m = j + 1 + 1 := ⟨m - 2, by omega⟩
      rw [one a b (m + 1) (by omega)]
      by_cases h1 : a % b = 0
      · rw [h1]
        have := fin b (m + 1) (by omega)
        have e : Nat.gcd a b = Nat.gcd b 0 := by rw [Nat.gcd_comm, Nat.gcd_rec, h1, Nat.gcd_comm]
        rw [e]; exact this
      · rw [one b (a % b) m (by omega)]
        have hr : a % b < b := Nat.mod_lt _ (by omega)
        have h2 : b % (a % b) < 2 ^ k := by
          have q1 : b % (a % b) < a % b := Nat.mod_lt _ (by omega)
          have q2 : (a % b) + b % (a % b) ≤ b := by
            have := Nat.div_add_mod b (a % b)
            have hq : 1 ≤ b / (a % b) := Nat.div_pos (by omega) (by omega)
            have : (a % b) * 1 ≤ (a % b) * (b / (a % b)) := Nat.mul_le_mul_left _ hq
            omega
          rw [Nat.pow_succ] at hb
          omega
        have e : Nat.gcd a b = Nat.gcd (a % b) (b % (a % b)) := by
          rw [Nat.gcd_comm a b, Nat.gcd_rec b a, Nat.gcd_rec (a % b) b, Nat.gcd_comm]
        rw [e]
        exact ih (a % b) (b % (a % b)) m h2 (by omega)
theorem run_divisor (h2 : defs 2 = some f_divisor) (c a b : Nat) (hb : b < 2 ^ 1000) : run defs (c + 1) 2 [.int a, .int b] = some (.int (Nat.gcd a b : Nat)) := by
  refine run_of h2 rfl rfl ?_
  show retD (exs _ _ [.val (.int a), .val (.int b)] (.whl _ _ [] :: [.ret _])) = _
  rw [exs_whl (whl_gcd 1000 a b 1000000 hb (by decide))]
  rw [exs_ret (d := .int (Nat.gcd a b : Nat)) (by simp)]
  rfl
theorem divOk_w {j : Int} (h0 : 0 < j) (h : j.natAbs < 2 ^ 1000) : divOk j = true := by
  have h1 : j.natAbs < 2 ^ 8192 := Nat.lt_of_lt_of_le h (Nat.pow_le_pow_right (by decide) (by decide))
  unfold divOk
  rw [decide_eq_true h0, decide_eq_true h1]
  simp
theorem opB_fdivw {i j : Int} (h0 : 0 < j) (h : j.natAbs < 2 ^ 1000) : opB .fdiv (.int i) (.int j) = some (.int (i / j)) := by
  simp only [opB, divOk_w h0 h, if_true, Int.fdiv_eq_ediv_of_nonneg _ (show 0 ≤ j by omega)]
end
end Rx
namespace Rx
/-! ### comprehensions over lists of anything -/
section
variable {G : Nat → List D → Option D} {env : Env} {α β : Type}
theorem compL_fa {f : D → Option (Option D)} (r : α → D) (k : α → Option D) : ∀ {l : List α}, (∀ a ∈ l, f (r a) = some (k a)) → compL f (l.map r) = some (l.filterMap k)
  | [], _ => rfl
  | x :: xs, h => by
    rw [List.map_cons, compL, h x (List.mem_cons_self ..), Option.bind_some, compL_fa r k fun y hy => h y (List.mem_cons_of_mem _ hy), List.filterMap_cons]
    cases k x <;> rfl
theorem compLL_fa {f : D → Option (List D)} (r : α → D) (k : α → List D) : ∀ {l : List α}, (∀ a ∈ l, f (r a) = some (k a)) → compLL f (l.map r) = some (l.flatMap k)
  | [], _ => rfl
  | x :: xs, h => by
    rw [List.map_cons, compLL, h x (List.mem_cons_self ..), Option.bind_some, compLL_fa r k fun y hy => h y (List.mem_cons_of_mem _ hy)]
    rfl
theorem fm_filter (p : α → Bool) (g : α → D) : ∀ l : List α, (l.filterMap fun x => if p x then some (g x) else none) = (l.filter p).map g
  | [] => rfl
  | x :: xs => by rw [List.filterMap_cons, List.filter_cons]; cases p x <;> simp [fm_filter p g xs]
theorem ev_compM {e : E} {t : T} {k : IK} {es : List E} {own : List Nat} {vs : List D} (l : List α) (r g : α → D) (h : evB G env es = some vs) (hw : walk k vs = some (l.map r)) (hl : l.length ≤ line)
    (hg : ∀ a ∈ l, ∃ env', bind t (r a) (env.kill own) = some env' ∧ ev G env' e = some (g a)) : ev G env (.comp e t k es [] own) = some (.lst (l.map g)) := by
  unfold ev
  rw [h]
  show (walk k vs).bind _ = _
  rw [hw]
  show (compL _ (l.map r)).bind fits = _
  rw [compL_fa r (fun a => some (g a)) fun x hx => by
    obtain ⟨env', h1, h2⟩ := hg x hx
    simp [h1, h2]]
  rw [Option.bind_some, List.filterMap_eq_map']
  exact fits_of (by simpa using hl)
theorem ev_compA {e : E} {t : T} {k : IK} {es : List E} {c : C} {own : List Nat} {vs : List D} (l : List α) (r g : α → D) (p : α → Bool) (h : evB G env es = some vs) (hw : walk k vs = some (l.map r)) (hl : l.length ≤ line)
    (hg : ∀ a ∈ l, ∃ env', bind t (r a) (env.kill own) = some env' ∧ ts G env' c = some (p a) ∧ (p a = true → ev G env' e = some (g a))) : ev G env (.comp e t k es [c] own) = some (.lst ((l.filter p).map g)) := by
  unfold ev
  rw [h]
  show (walk k vs).bind _ = _
  rw [hw]
  show (compL _ (l.map r)).bind fits = _
  rw [compL_fa r (fun a => if p a then some (g a) else none) fun x hx => by
    obtain ⟨env', h1, h2, h3⟩ := hg x hx
    rw [h1]
    simp only [Option.bind_some, tsL, h2]
    cases hp : p x with
    | false => simp
    | true => simp [h3 hp]]
  rw [Option.bind_some, fm_filter]
  exact fits_of (by simpa using Nat.le_trans (List.length_filter_le p l) hl)
/-- two loops, the inner one with a test -/
theorem ev_comp2A {e : E} {t t2 : T} {k k2 : IK} {es es2 : List E} {c2 : C} {own own2 : List Nat} {vs : List D} (l : List α) (r : α → D) (m : α → List β) (r2 g : α → β → D) (p2 : α → β → Bool) (h : evB G env es = some vs) (hw : walk k vs = some (l.map r))
    (hl : (l.flatMap fun a => (m a).filter (p2 a)).length ≤ line)
    (hg : ∀ a ∈ l, ∃ env' ws, bind t (r a) (env.kill own) = some env' ∧ evB G env' es2 = some ws ∧ walk k2 ws = some ((m a).map (r2 a)) ∧
      ∀ b ∈ m a, ∃ env2, bind t2 (r2 a b) (env'.kill own2) = some env2 ∧ ts G env2 c2 = some (p2 a b) ∧ (p2 a b = true → ev G env2 e = some (g a b))) :
    ev G env (.comp2 e t k es [] t2 k2 es2 [c2] own own2) = some (.lst (l.flatMap fun a => ((m a).filter (p2 a)).map (g a))) := by
  unfold ev
  rw [h]
  show (walk k vs).bind _ = _
  rw [hw]
  show (compLL _ (l.map r)).bind fits = _
  rw [compLL_fa r (fun a => ((m a).filter (p2 a)).map (g a)) fun x hx => by
    obtain ⟨env', ws, h1, h2, h3, h4⟩ := hg x hx
    rw [h1]
    simp only [Option.bind_some, tsL, if_true, h2, h3]
    rw [compL_fa (r2 x) (fun b => if p2 x b then some (g x b) else none) fun b hb => by
      obtain ⟨env2, q1, q2, q3⟩ := h4 b hb
      rw [q1]
      simp only [Option.bind_some, q2]
      cases hp : p2 x b with
      | false => simp
      | true => simp [q3 hp]]
    rw [fm_filter]]
  rw [Option.bind_some]
  refine fits_of ?_
  have : (l.flatMap fun a => ((m a).filter (p2 a)).map (g a)).length = (l.flatMap fun a => (m a).filter (p2 a)).length := by
    simp [List.length_flatMap]
  rw [this]; exact hl
end
theorem walk_enumA {α : Type} [Inhabited α] (f : α → D) (xs : List α) : walk .enum [.tup (xs.map f)] = some ((List.range xs.length).map fun (k : Nat) => .tup [.int k, f (xs.getD k default)]) := by
  show some ((List.range (xs.map f).length).map fun (k : Nat) => D.tup [.int k, (xs.map f).getD k .non]) = _
  rw [List.length_map]
  congr 1
  refine List.map_congr_left fun k hk => ?_
  have hk := List.mem_range.mp hk
  simp [List.getD_eq_getElem?_getD, hk]
/-- the least one is one of them -/
theorem leastD_mem : ∀ (m : D) (xs : List D), leastD m xs = m ∨ leastD m xs ∈ xs
  | m, [] => .inl rfl
  | m, x :: xs => by
    unfold leastD
    rcases leastD_mem (if D.ltb x m then x else m) xs with h | h
    · rw [h]
      split
      · exact .inr (List.mem_cons_self ..)
      · exact .inl rfl
    · exact .inr (List.mem_cons_of_mem _ h)
theorem alike_ints : ∀ (xs ys : List Nat), xs.length = ys.length → D.alikeL (xs.map fun (k : Nat) => D.int k) (ys.map fun (k : Nat) => D.int k) = true
  | [], [], _ => rfl
  | x :: xs, y :: ys, h => by
    simp only [List.map_cons, D.alikeL, D.alike, Bool.true_and]
    exact alike_ints xs ys (by simpa using h)
  | [], _ :: _, h => by simp at h
  | _ :: _, [], h => by simp at h
theorem plain_ints : ∀ (xs : List Nat), D.plainL (xs.map fun (k : Nat) => D.int k) = true
  | [] => rfl
  | x :: xs => by simp only [List.map_cons, D.plainL, D.plain, Bool.true_and]; exact plain_ints xs
theorem depth_ints : ∀ (xs : List Nat), D.depthL (xs.map fun (k : Nat) => D.int k) = 0
  | [] => rfl
  | x :: xs => by simp only [List.map_cons, D.depthL, D.depth, depth_ints xs]; rfl
/-- the least of tuples of ints, all of one length -/
theorem min_rows {l : List (List Nat)} (hl : l ≠ []) (n : Nat) (h : ∀ p ∈ l, p.length = n) : ∃ d, opU .min (.lst (l.map fun p => .tup (p.map fun (k : Nat) => .int k))) = some d ∧ D.isNon d = false := by
  cases l with
  | nil => exact absurd rfl hl
  | cons p ps =>
    have e1 : ∀ q : List (List Nat), (∀ p ∈ q, p.length = n) → D.plainL (q.map fun p => .tup (p.map fun (k : Nat) => .int k)) = true := by
      intro q hq
      induction q with
      | nil => rfl
      | cons a q ih => simp only [List.map_cons, D.plainL, D.plain, plain_ints, Bool.true_and]; exact ih fun p hp => hq p (List.mem_cons_of_mem _ hp)
    have e2 : ∀ q : List (List Nat), D.depthL (q.map fun p => .tup (p.map fun (k : Nat) => .int k)) ≤ 1 := by
      intro q
      induction q with
      | nil => exact Nat.zero_le _
      | cons a q ih => simp only [List.map_cons, D.depthL, D.depth, depth_ints]; omega
    have e3 : alikeAll ((p :: ps).map fun p => .tup (p.map fun (k : Nat) => .int k)) = true := by
      unfold alikeAll
      rw [List.all_eq_true]
      intro x hx
      rw [List.all_eq_true]
      intro y hy
      obtain ⟨a, ha, rfl⟩ := List.mem_map.mp hx
      obtain ⟨b, hb, rfl⟩ := List.mem_map.mp hy
      simp only [D.alike]
      exact alike_ints a b (by rw [h a ha, h b hb])
    refine ⟨leastD (.tup (p.map fun (k : Nat) => .int k)) (ps.map fun p => .tup (p.map fun (k : Nat) => .int k)), ?_, ?_⟩
    · have h3 := e1 (p :: ps) h
      have h4 : D.depthL ((p :: ps).map fun p => D.tup (p.map fun (k : Nat) => .int k)) < 60 := by have := e2 (p :: ps); omega
      have h5 : (alikeAll ((p :: ps).map fun p => D.tup (p.map fun (k : Nat) => .int k)) && D.plainL ((p :: ps).map fun p => D.tup (p.map fun (k : Nat) => .int k)) && decide (D.depthL ((p :: ps).map fun p => D.tup (p.map fun (k : Nat) => .int k)) < 60)) = true := by rw [e3, h3, decide_eq_true h4]; rfl
      exact if_pos h5
    · rcases leastD_mem (.tup (p.map fun (k : Nat) => .int k)) (ps.map fun p => .tup (p.map fun (k : Nat) => .int k)) with q | q
      · rw [q]; rfl
      · obtain ⟨a, _, q⟩ := List.mem_map.mp q
        rw [← q]; rfl
end Rx
end

section
set_option Elab.async false
set_option linter.all false
set_option maxRecDepth 100000
set_option autoImplicit false
namespace Rx
/-! ### the program as data -/
/-- 68: 0 first 1 second 2 one 3 other -/
def f_is_at_least : Fn := ⟨2, 4, false, [
  .ret (.b1 .all (.comp (.cmp .ge (.var 2) (.var 3)) (.tup [(.name 2), (.name 3)]) .zip2 [(.var 0), (.var 1)] [] [2, 3]))]⟩
/-- 69: 0 coinage 1 purse 2 value 3 count -/
def f_sum_of : Fn := ⟨2, 4, false, [
  .ret (.b1 .sum (.comp (.bin .mul (.var 2) (.var 3)) (.tup [(.name 2), (.name 3)]) .zip2 [(.var 0), (.var 1)] [] [2, 3]))]⟩
/-- 70: 0 shop 1 kind 2 coinage 3 caps 4 kinds 5 given 6 price -/
def f_due_of : Fn := ⟨2, 7, false, [
  .asgT (.tup [(.name 2), (.name 3), (.name 4)]) (.var 0),
  .asgT (.tup [(.name 5), (.name 6)]) (.sub (.var 4) (.var 1)),
  .ret (.bin .sub (.call 69 [(.var 2), (.var 5)]) (.var 6))]⟩
/-- 71: 0 shop 1 content 2 kind 3 have 4 more -/
def f_with_given : Fn := ⟨3, 5, false, [
  .ret (.b1 .tuple (.comp (.bin .add (.var 3) (.var 4)) (.tup [(.name 3), (.name 4)]) .zip2 [(.var 1), (.sub (.sub (.sub (.var 0) (.int 2)) (.var 2)) (.int 0))] [] [3, 4]))]⟩
/-- 72: 0 shop 1 content 2 kind 3 there 4 rows 5 due 6 value 7 count 8 row 9 paid 10 taken -/
def f_changes : Fn := ⟨3, 11, false, [
  .asg 3 (.call 71 [(.var 0), (.var 1), (.var 2)]),
  .asg 4 (.lst [(.tup [(.tup []), (.int 0)])]),
  .asg 5 (.call 70 [(.var 0), (.var 2)]),
  .for_ (.tup [(.name 6), (.name 7)]) .zip2 [(.sub (.var 0) (.int 0)), (.var 3)] [.asg 4 (.comp2 (.tup [(.bin .add (.var 8) (.tup [(.var 10)])), (.bin .add (.var 9) (.bin .mul (.var 10) (.var 6)))]) (.tup [(.name 8), (.name 9)]) .seq [(.var 4)] [] (.name 10) .r1 [(.bin .add (.var 7) (.int 1))] [(.val (.cmp .le (.bin .add (.var 9) (.bin .mul (.var 10) (.var 6))) (.var 5)))] [8, 9, 10] [10])] [6, 7],
  .ret (.b1 .tuple (.comp (.var 8) (.tup [(.name 8), (.name 9)]) .seq [(.var 4)] [(.val (.cmp .eq (.var 9) (.var 5)))] [8, 9]))]⟩
/-- 73: 0 shop 1 content 2 kind 3 change 4 there 5 cap 6 have 7 less -/
def f_behind : Fn := ⟨4, 8, false, [
  .asg 4 (.call 71 [(.var 0), (.var 1), (.var 2)]),
  .ret (.b1 .tuple (.comp (.b2 .min (.var 5) (.bin .sub (.var 6) (.var 7))) (.tup [(.name 5), (.name 6), (.name 7)]) .zip3 [(.sub (.var 0) (.int 1)), (.var 4), (.var 3)] [] [5, 6, 7]))]⟩
/-- 74: 0 shop 1 content 2 kind 3 change 4 there 5 less 6 have -/
def f_serve : Fn := ⟨4, 7, false, [
  .asg 4 (.call 71 [(.var 0), (.var 1), (.var 2)]),
  .ifs (.val (.cmp .ne (.call 69 [(.sub (.var 0) (.int 0)), (.var 3)]) (.call 70 [(.var 0), (.var 2)]))) [.ret .non] [],
  .ifs (.val (.b1 .any (.comp (.cmp .gt (.var 5) (.var 6)) (.tup [(.name 5), (.name 6)]) .zip2 [(.var 3), (.var 4)] [] [5, 6]))) [.ret .non] [],
  .ret (.call 73 [(.var 0), (.var 1), (.var 2), (.var 3)])]⟩
/-- 75: 0 caps 1 rows 2 cap 3 row 4 count -/
def f_contents_of : Fn := ⟨1, 5, false, [
  .asg 1 (.lst [(.tup [])]),
  .for_ (.name 2) .seq [(.var 0)] [.asg 1 (.comp2 (.bin .add (.var 3) (.tup [(.var 4)])) (.name 3) .seq [(.var 1)] [] (.name 4) .r1 [(.bin .add (.var 2) (.int 1))] [] [3, 4] [4])] [2],
  .ret (.var 1)]⟩
/-- 76: 0 shop 1 kinds 2 ways 3 content 4 rows 5 kind 6 change -/
def f_ways_of : Fn := ⟨1, 7, false, [
  .asg 1 (.b1 .rng (.b1 .len (.sub (.var 0) (.int 2)))),
  .asgO 2 (.dic0 true),
  .for_ (.name 3) .seq [(.call 75 [(.sub (.var 0) (.int 1))])] [.asgO 4 (.lst []), .for_ (.name 5) .seq [(.var 1)] [.app 4 (.comp (.call 73 [(.var 0), (.var 3), (.var 5), (.var 6)]) (.name 6) .seq [(.call 72 [(.var 0), (.var 3), (.var 5)])] [] [6])] [5], .frz 4, .sset 2 (.var 3) (.var 4)] [3, 4, 5],
  .frz 2,
  .ret (.var 2)]⟩
/-- 77: 0 shop 1 ways 2 ranks 3 turn 4 found 5 fresh 6 content 7 row 8 there -/
def f_ranks_of : Fn := ⟨1, 9, false, [
  .asg 1 (.call 76 [(.var 0)]),
  .asgO 2 (.dic0 true),
  .asg 3 (.int 0),
  .asg 4 (.bl true),
  .whl (.val (.var 4)) [.aug 3 .add (.int 1), .asg 5 (.comp (.var 6) (.name 6) .keys [(.ife (.val (.bl true)) (.var 1) .non)] [(.and (.val (.cmp .notin (.var 6) (.var 2))) (.val (.b1 .any (.comp (.b1 .all (.comp (.cmp .isin (.var 8) (.var 2)) (.name 8) .seq [(.var 7)] [] [8])) (.name 7) .seq [(.sub (.var 1) (.var 6))] [] [7]))))] [6]), .for_ (.name 6) .seq [(.var 5)] [.sset 2 (.var 6) (.var 3)] [6], .asg 4 (.cmp .gt (.b1 .len (.var 5)) (.int 0))] [5, 6],
  .frz 2,
  .ret (.var 2)]⟩
/-- 78: 0 shop 1 content -/
def f_is_safe : Fn := ⟨2, 2, false, [
  .ret (.cmp .notin (.var 1) (.call 77 [(.var 0)]))]⟩
/-- 79: 0 rows 1 row 2 other -/
def f_least_of : Fn := ⟨1, 3, false, [
  .ret (.b1 .tuple (.comp (.var 1) (.name 1) .seq [(.var 0)] [(.not (.val (.b1 .any (.comp (.and (.cmp .ne (.var 2) (.var 1)) (.call 68 [(.var 1), (.var 2)])) (.name 2) .seq [(.var 0)] [] [2]))))] [1]))]⟩
/-- 80: 0 rows 1 row 2 other -/
def f_greatest_of : Fn := ⟨1, 3, false, [
  .ret (.b1 .tuple (.comp (.var 1) (.name 1) .seq [(.var 0)] [(.not (.val (.b1 .any (.comp (.and (.cmp .ne (.var 2) (.var 1)) (.call 68 [(.var 2), (.var 1)])) (.name 2) .seq [(.var 0)] [] [2]))))] [1]))]⟩
/-- 81: 0 shop 1 ranks 2 content -/
def f_least_floats : Fn := ⟨1, 3, false, [
  .asg 1 (.call 77 [(.var 0)]),
  .ret (.call 79 [(.comp (.var 2) (.name 2) .seq [(.call 75 [(.sub (.var 0) (.int 1))])] [(.val (.cmp .notin (.var 2) (.var 1)))] [2])])]⟩
/-- 82: 0 shop 1 ranks 2 content -/
def f_greatest_unsafe : Fn := ⟨1, 3, false, [
  .asg 1 (.call 77 [(.var 0)]),
  .ret (.call 80 [(.comp (.var 2) (.name 2) .seq [(.call 75 [(.sub (.var 0) (.int 1))])] [(.val (.cmp .isin (.var 2) (.var 1)))] [2])])]⟩
/-- 83: 0 content 1 floats 2 one -/
def f_holds_one : Fn := ⟨2, 3, false, [
  .ret (.b1 .any (.comp (.call 68 [(.var 0), (.var 2)]) (.name 2) .seq [(.var 1)] [] [2]))]⟩
/-- 84: 0 shop 1 content -/
def f_fails_within : Fn := ⟨2, 2, false, [
  .ret (.b2 .get (.call 77 [(.var 0)]) (.var 1))]⟩
/-- 85: 0 shop 1 content 2 ranks 3 kind 4 there 5 change 6 one -/
def f_breaker : Fn := ⟨2, 7, false, [
  .asg 2 (.call 77 [(.var 0)]),
  .ifs (.val (.cmp .notin (.var 1) (.var 2))) [.ret .non] [],
  .for_ (.name 3) .r1 [(.b1 .len (.sub (.var 0) (.int 2)))] [.asg 4 (.comp (.call 73 [(.var 0), (.var 1), (.var 3), (.var 5)]) (.name 5) .seq [(.call 72 [(.var 0), (.var 1), (.var 3)])] [] [5]), .ifs (.val (.b1 .all (.comp (.and (.cmp .isin (.var 6) (.var 2)) (.cmp .lt (.sub (.var 2) (.var 6)) (.sub (.var 2) (.var 1)))) (.name 6) .seq [(.var 4)] [] [6]))) [.ret (.var 3)] []] [3, 4],
  .ret .non]⟩
/-- 86: 0 coinage 1 caps 2 kinds 3 good 4 room -/
def f_least_caps : Fn := ⟨3, 5, false, [
  .asgO 3 (.lst []),
  .for_ (.name 4) .seq [(.call 75 [(.var 1)])] [.ifs (.and (.not (.val (.callB 83 [(.var 4), (.var 3)]))) (.val (.call 78 [(.tup [(.var 0), (.var 4), (.var 2)]), (.var 4)]))) [.app 3 (.var 4)] []] [4],
  .frz 3,
  .ret (.call 79 [(.var 3)])]⟩
/-- 87: 0 row 1 values 2 rooms 3 caps 4 kinds 5 k 6 given 7 whole 8 j -/
def f_law_shop : Fn := ⟨1, 9, false, [
  .asgP [(1, false), (2, false)] [(.sub (.tup [(.tup [(.int 1), (.int 2)]), (.tup [(.int 1), (.int 3)]), (.tup [(.int 2), (.int 3)]), (.tup [(.int 2), (.int 5)]), (.tup [(.int 1), (.int 5)]), (.tup [(.int 5), (.int 10)])]) (.bin .mod (.b1 .int (.sub (.var 0) (.int 0))) (.int 6))), (.int 4)],
  .ifs (.val (.cmp .eq (.bin .mod (.b1 .int (.sub (.var 0) (.int 1))) (.int 5)) (.int 4))) [.asgP [(1, false), (2, false)] [(.sub (.tup [(.tup [(.int 1), (.int 2), (.int 5)]), (.tup [(.int 2), (.int 3), (.int 7)]), (.tup [(.int 1), (.int 5), (.int 10)])]) (.bin .mod (.b1 .int (.sub (.var 0) (.int 0))) (.int 3))), (.int 2)]] [],
  .asg 3 (.b1 .tuple (.comp (.bin .mod (.b1 .int (.sub (.var 0) (.bin .add (.int 2) (.var 5)))) (.var 2)) (.name 5) .r1 [(.b1 .len (.var 1))] [] [5])),
  .asgO 4 (.lst []),
  .for_ (.name 5) .r1 [(.bin .add (.int 1) (.bin .mod (.b1 .int (.sub (.var 0) (.int 5))) (.int 3)))] [.asg 6 (.b1 .tuple (.comp (.bin .mod (.b1 .int (.sub (.var 0) (.bin .add (.bin .add (.int 6) (.bin .mul (.int 4) (.var 5))) (.var 8)))) (.int 3)) (.name 8) .r1 [(.b1 .len (.var 1))] [] [8])), .asg 7 (.b1 .sum (.comp (.bin .mul (.sub (.var 1) (.var 8)) (.sub (.var 6) (.var 8))) (.name 8) .r1 [(.b1 .len (.var 1))] [] [8])), .app 4 (.tup [(.var 6), (.bin .sub (.var 7) (.bin .mod (.b1 .int (.sub (.var 0) (.bin .add (.int 9) (.bin .mul (.int 4) (.var 5))))) (.bin .add (.var 7) (.int 1))))])] [5, 6, 7],
  .ret (.tup [(.var 1), (.var 3), (.b1 .tuple (.var 4))])]⟩
/-- 88: 0 caps 1 rows 2 cap 3 grown 4 row 5 count -/
def f_law_contents : Fn := ⟨1, 6, false, [
  .asg 1 (.lst [(.tup [])]),
  .for_ (.name 2) .seq [(.var 0)] [.asgO 3 (.lst []), .for_ (.name 4) .seq [(.var 1)] [.ext 3 (.comp (.bin .add (.var 4) (.tup [(.var 5)])) (.name 5) .r1 [(.bin .add (.var 2) (.int 1))] [] [5])] [4], .frz 3, .asg 1 (.var 3)] [2, 3, 4],
  .ret (.var 1)]⟩
/-- 89: 0 content 1 rows 2 one 3 k -/
def f_law_above : Fn := ⟨2, 4, false, [
  .ret (.b1 .any (.comp (.b1 .all (.comp (.cmp .ge (.sub (.var 0) (.var 3)) (.sub (.var 2) (.var 3))) (.name 3) .r1 [(.b1 .len (.var 0))] [] [3])) (.name 2) .seq [(.var 1)] [] [2]))]⟩
/-- 90: 0 value 1 caps 2 one 3 k 4 count -/
def f_law_are_rows : Fn := ⟨2, 5, false, [
  .ifs (.not (.val (.b1 .isTup (.var 0)))) [.ret (.bl false)] [],
  .for_ (.name 2) .seq [(.var 0)] [.ifs (.or (.not (.val (.b1 .isTup (.var 2)))) (.or (.val (.cmp .ne (.b1 .len (.var 2)) (.b1 .len (.var 1)))) (.not (.val (.b1 .all (.comp (.call 9 [(.var 4)]) (.name 4) .seq [(.var 2)] [] [4])))))) [.ret (.bl false)] [], .ifs (.not (.val (.b1 .all (.comp (.chn .le .le (.int 0) (.sub (.var 2) (.var 3)) (.sub (.var 1) (.var 3))) (.name 3) .r1 [(.b1 .len (.var 1))] [] [3])))) [.ret (.bl false)] []] [2],
  .ret (.bl true)]⟩
/-- 91: 0 shop 1 ranks 2 content 3 kind 4 found 5 change 6 there -/
def f_law_behind : Fn := ⟨4, 7, false, [
  .asgO 4 (.lst []),
  .for_ (.name 5) .seq [(.call 72 [(.var 0), (.var 2), (.var 3)])] [.asg 6 (.call 74 [(.var 0), (.var 2), (.var 3), (.var 5)]), .ifs (.val (.cmp .notin (.var 6) (.var 1))) [.ret .non] [], .app 4 (.sub (.var 1) (.var 6))] [5, 6],
  .frz 4,
  .ret (.var 4)]⟩
/-- 92: 0 behind_v 1 rank 2 one -/
def f_law_less : Fn := ⟨2, 3, false, [
  .ret (.b1 .all (.comp (.and (.cmp .isnt (.var 2) .non) (.cmp .lt (.var 2) (.var 1))) (.name 2) .seq [(.var 0)] [] [2]))]⟩
/-- 93: 0 shop 1 ranks 2 content 3 rank 4 kind 5 rows 6 one 7 row -/
def f_law_stands : Fn := ⟨3, 8, false, [
  .asgP [(3, false), (4, false)] [(.sub (.var 1) (.var 2)), (.call 85 [(.var 0), (.var 2)])],
  .asg 5 (.comp (.call 91 [(.var 0), (.var 1), (.var 2), (.var 6)]) (.name 6) .r1 [(.b1 .len (.sub (.var 0) (.int 2)))] [] [6]),
  .ifs (.or (.val (.cmp .isin .non (.var 5))) (.not (.val (.call 10 [(.call 78 [(.var 0), (.var 2)]), (.cmp .is (.var 3) .non)])))) [.ret (.bl false)] [],
  .ifs (.val (.cmp .is (.var 3) .non)) [.ret (.and (.cmp .is (.var 4) .non) (.b1 .all (.comp (.cmp .isin .non (.var 7)) (.name 7) .seq [(.var 5)] [] [7])))] [],
  .ifs (.or (.not (.val (.call 9 [(.var 4)]))) (.or (.not (.val (.chn .le .lt (.int 0) (.var 4) (.b1 .len (.var 5))))) (.not (.val (.call 92 [(.sub (.var 5) (.var 4)), (.var 3)]))))) [.ret (.bl false)] [],
  .ifs (.or (.val (.cmp .ne (.cmp .eq (.var 3) (.int 1)) (.cmp .eq (.b1 .len (.sub (.var 5) (.var 4))) (.int 0)))) (.and (.val (.cmp .gt (.var 3) (.int 1))) (.val (.cmp .ne (.b1 .max (.sub (.var 5) (.var 4))) (.bin .sub (.var 3) (.int 1)))))) [.ret (.bl false)] [],
  .ret (.not (.b1 .any (.comp (.call 92 [(.sub (.var 5) (.var 6)), (.var 3)]) (.name 6) .r1 [(.var 4)] [] [6])))]⟩
/-- 94: 0 script 1 shop 2 contents 3 ranks 4 floats 5 worst 6 content 7 numbers 8 rooms -/
def f_law : Fn := ⟨1, 9, false, [
  .asg 1 (.call 87 [(.call 8 [(.var 0), (.int 24)])]),
  .asgP [(2, false), (3, true), (4, false), (5, false)] [(.call 88 [(.sub (.var 1) (.int 1))]), (.dic0 true), (.call 81 [(.var 1)]), (.call 82 [(.var 1)])],
  .ifs (.or (.not (.val (.call 90 [(.var 4), (.sub (.var 1) (.int 1))]))) (.not (.val (.call 90 [(.var 5), (.sub (.var 1) (.int 1))])))) [.ret (.bl false)] [],
  .for_ (.name 6) .seq [(.var 2)] [.sset 3 (.var 6) (.call 84 [(.var 1), (.var 6)]), .ifs (.and (.val (.cmp .isnt (.sub (.var 3) (.var 6)) .non)) (.or (.not (.val (.call 9 [(.sub (.var 3) (.var 6))]))) (.val (.cmp .lt (.sub (.var 3) (.var 6)) (.int 1))))) [.ret (.bl false)] []] [6],
  .asg 7 (.b1 .sset (.comp (.sub (.var 3) (.var 6)) (.name 6) .seq [(.var 2)] [(.val (.cmp .isnt (.sub (.var 3) (.var 6)) .non))] [6])),
  .ifs (.or (.val (.cmp .ne (.var 7) (.ofw true .r2 [(.int 1), (.bin .add (.b1 .len (.var 7)) (.int 1))]))) (.val (.cmp .ne (.cmp .gt (.b1 .len (.var 5)) (.int 0)) (.cmp .gt (.b1 .len (.var 7)) (.int 0))))) [.ret (.bl false)] [],
  .ifs (.and (.val (.cmp .gt (.b1 .len (.var 5)) (.int 0))) (.val (.cmp .notin (.b1 .len (.var 7)) (.comp (.sub (.var 3) (.var 6)) (.name 6) .seq [(.var 5)] [] [6])))) [.ret (.bl false)] [],
  .for_ (.name 6) .seq [(.var 2)] [.frz 3, .ifs (.or (.val (.cmp .ne (.cmp .is (.sub (.var 3) (.var 6)) .non) (.call 89 [(.var 6), (.var 4)]))) (.not (.val (.call 93 [(.var 1), (.var 3), (.var 6)])))) [.ret (.bl false)] []] [6],
  .asg 8 (.call 86 [(.sub (.var 1) (.int 0)), (.sub (.var 1) (.int 1)), (.sub (.var 1) (.int 2))]),
  .ifs (.not (.val (.call 90 [(.var 8), (.sub (.var 1) (.int 1))]))) [.ret (.bl false)] [],
  .ret (.and (.cmp .eq (.cmp .is (.sub (.var 3) (.sub (.var 1) (.int 1))) .non) (.cmp .gt (.b1 .len (.var 4)) (.int 0))) (.cmp .eq (.cmp .gt (.b1 .len (.var 4)) (.int 0)) (.call 89 [(.sub (.var 1) (.int 1)), (.var 8)])))]⟩
def defs : Nat → Option Fn := fun n => match n with
  | 68 => some f_is_at_least
  | 69 => some f_sum_of
  | 70 => some f_due_of
  | 71 => some f_with_given
  | 72 => some f_changes
  | 73 => some f_behind
  | 74 => some f_serve
  | 75 => some f_contents_of
  | 76 => some f_ways_of
  | 77 => some f_ranks_of
  | 78 => some f_is_safe
  | 79 => some f_least_of
  | 80 => some f_greatest_of
  | 81 => some f_least_floats
  | 82 => some f_greatest_unsafe
  | 83 => some f_holds_one
  | 84 => some f_fails_within
  | 85 => some f_breaker
  | 86 => some f_least_caps
  | 7 => some f_law_mixed
  | 8 => some f_law_row
  | 9 => some f_law_is_int
  | 10 => some f_law_like
  | 87 => some f_law_shop
  | 88 => some f_law_contents
  | 89 => some f_law_above
  | 90 => some f_law_are_rows
  | 91 => some f_law_behind
  | 92 => some f_law_less
  | 93 => some f_law_stands
  | 94 => some f_law
  | _ => none
end Rx
end

section
set_option Elab.async false
set_option linter.all false
set_option maxRecDepth 100000
set_option autoImplicit false
/-! RxEq: statements as equations, for simp; lists of numbers. -/
namespace Rx
section
variable {G GI : Nat → List D → Option D} {env : Env} {a b e : E} {x y d : D} {ss : List S} {n : Nat} {q : C} {as bs : List S}
theorem xs_asg : exs G GI env (.asg n e :: ss) = (ev G env e).bind fun d => exs G GI (env.set n (.val d)) ss := by
  rw [exs_cons, ex]; cases ev G env e <;> rfl
theorem xs_asgO : exs G GI env (.asgO n e :: ss) = if isNew e = true then (ev G env e).bind fun d => exs G GI (env.set n (.own d)) ss else none := by
  rw [exs_cons, ex]
  split
  · cases ev G env e <;> rfl
  · rfl
theorem xs_asgT {t : T} : exs G GI env (.asgT t e :: ss) = (ev G env e).bind fun d => (bind t d env).bind fun env' => exs G GI env' ss := by
  rw [exs_cons, ex]; cases ev G env e with
  | none => rfl
  | some d => simp only [Option.bind_some]; cases bind t d env <;> rfl
theorem xs_asgP {is : List (Nat × Bool)} {es : List E} : exs G GI env (.asgP is es :: ss) = (evL G env es).bind fun ds => (stores is ds env).bind fun env' => exs G GI env' ss := by
  rw [exs_cons, ex]; cases evL G env es with
  | none => rfl
  | some d => simp only [Option.bind_some]; cases stores is d env <;> rfl
theorem xs_aug {o : BO} : exs G GI env (.aug n o e :: ss) = (env.val n).bind fun x => (ev G env e).bind fun y => (opA o x y).bind fun z => exs G GI (env.set n (.val z)) ss := by
  rw [exs_cons, ex]; cases env.val n with
  | none => rfl
  | some d => simp only [Option.bind_some]; cases ev G env e with
    | none => rfl
    | some y => simp only [Option.bind_some]; cases opA o d y <;> rfl
theorem xs_sset {k : E} : exs G GI env (.sset n k e :: ss) = (ev G env e).bind fun v => (env.ow n).bind fun x => (ev G env k).bind fun k => (putAt x k v).bind fun d => exs G GI (env.set n (.own d)) ss := by
  rw [exs_cons, ex]; cases ev G env e with
  | none => rfl
  | some v => simp only [Option.bind_some]; cases env.ow n with
    | none => rfl
    | some x => simp only [Option.bind_some]; cases ev G env k with
      | none => rfl
      | some k => simp only [Option.bind_some]; cases putAt x k v <;> rfl
theorem xs_saug {o : BO} {k : E} : exs G GI env (.saug n k o e :: ss) = (env.ow n).bind fun x => (ev G env k).bind fun k => (opSub x k).bind fun y => (ev G env e).bind fun v => (opA o y v).bind fun z => (putAt x k z).bind fun d => exs G GI (env.set n (.own d)) ss := by
  rw [exs_cons, ex]; cases env.ow n with
  | none => rfl
  | some x => simp only [Option.bind_some]; cases ev G env k with
    | none => rfl
    | some k => simp only [Option.bind_some]; cases opSub x k with
      | none => rfl
      | some y => simp only [Option.bind_some]; cases ev G env e with
        | none => rfl
        | some v => simp only [Option.bind_some]; cases opA o y v with
          | none => rfl
          | some z => simp only [Option.bind_some]; cases putAt x k z <;> rfl
theorem xs_ret : exs G GI env (.ret e :: ss) = (ev G env e).map fun d => (.rt d, env) := by
  rw [exs_cons, ex]; cases ev G env e <;> rfl
theorem xs_kill {is : List Nat} : exs G GI env (.kill is :: ss) = exs G GI (env.kill is) ss := exs_kill
theorem xs_frz : exs G GI env (.frz n :: ss) = (env.bor n).bind fun d => exs G GI (env.set n (.val d)) ss := by
  rw [exs_cons, ex]; cases env.bor n <;> rfl
theorem xs_move {m : Nat} : exs G GI env (.move n m :: ss) = (env.ow m).bind fun d => exs G GI ((env.set m .unk).set n (.own d)) ss := by
  rw [exs_cons, ex]; cases env.ow m <;> rfl
theorem xs_brk : exs G GI env (.brk :: ss) = some (.brk, env) := by rw [exs_cons, ex]; rfl
theorem xs_nil : exs G GI env [] = some (.nx, env) := rfl
theorem xs_callIO {f : Nat} {es : List E} : exs G GI env (.callIO f n es :: ss) = (env.ow n).bind fun x => (evL G env es).bind fun ds => (GI f (x :: ds)).bind fun d => exs G GI (env.set n (.own d)) ss := by
  rw [exs_cons, ex]; cases env.ow n with
  | none => rfl
  | some x => simp only [Option.bind_some]; cases evL G env es with
    | none => rfl
    | some ds => simp only [Option.bind_some]; cases GI f (x :: ds) <;> rfl
theorem seqS_nx {e1 : Env} {f : Env → Option (Fl × Env)} : seqS (some (.nx, e1)) f = f e1 := rfl
theorem seqS_rt {e1 : Env} {f : Env → Option (Fl × Env)} : seqS (some (.rt d, e1)) f = some (.rt d, e1) := rfl
theorem seqS_brk {e1 : Env} {f : Env → Option (Fl × Env)} : seqS (some (.brk, e1)) f = some (.brk, e1) := rfl
theorem xs_ifs : exs G GI env (.ifs q as bs :: ss) = (ts G env q).bind fun r => seqS (if r = true then exs G GI env as else exs G GI env bs) fun e => exs G GI e ss := by
  rw [exs_cons, ex]
  cases ts G env q with
  | none => rfl
  | some r => rfl
theorem xs_app {e : E} : exs G GI env (.app n e :: ss) = (env.ow n).bind fun x => (ev G env e).bind fun v => match x with
    | .lst xs => if xs.length < line then exs G GI (env.set n (.own (.lst (xs ++ [v])))) ss else none
    | _ => none := by
  rw [exs_cons, ex]
  cases env.ow n with
  | none => rfl
  | some x => simp only [Option.bind_some]; cases ev G env e with
    | none => rfl
    | some v =>
      simp only [Option.bind_some]
      cases x <;> first | rfl | (simp only; split <;> rfl)
theorem exs_ext {e : E} {xs ys : List D} (ho : env.ow n = some (.lst xs)) (h : ev G env e = some (.lst ys)) (hl : xs.length + ys.length ≤ line) : exs G GI env (.ext n e :: ss) = exs G GI (env.set n (.own (.lst (xs ++ ys)))) ss := by
  rw [exs_cons, ex, ho, h]
  simp only [Option.bind_some]
  rw [if_pos hl]; rfl
theorem exs_callIO {f : Nat} {es : List E} {ds : List D} (ho : env.ow n = some x) (h : evL G env es = some ds) (hg : GI f (x :: ds) = some d) : exs G GI env (.callIO f n es :: ss) = exs G GI (env.set n (.own d)) ss := by
  rw [xs_callIO, ho, Option.bind_some, h, Option.bind_some, hg, Option.bind_some]
theorem exs_forR {t : T} {k : IK} {es : List E} {kl : List Nat} {vs xs : List D} {env' : Env} (h : evL G env es = some vs) (hw : walk k vs = some xs) (hf : forL (fun x e => (bind t x e).bind fun e' => exs G GI e' bs) kl xs env = some (.rt d, env')) :
    exs G GI env (.for_ t k es bs kl :: ss) = some (.rt d, env') := by simp [exs, ex, h, hw, hf, seqS]
end
theorem runI_of {defs : Nat → Option Fn} {c f : Nat} {x : D} {ds : List D} {fn : Fn} {d : D} (hd : defs f = some fn) (hio : fn.io = true) (hl : (x :: ds).length = fn.ps) (h : retI (exs (run defs c) (runI defs c) (.own x :: (ds.map Cell.val ++ List.replicate (fn.ns - fn.ps) .unk)) fn.body) = some d) : runI defs (c + 1) f (x :: ds) = some d := by
  show ((defs f).bind fun fn => if fn.io = true ∧ (x :: ds).length = fn.ps then retI (exs (run defs c) (runI defs c) (fn.start (x :: ds)) fn.body) else none) = some d
  rw [hd]
  show (if fn.io = true ∧ (x :: ds).length = fn.ps then retI (exs (run defs c) (runI defs c) (fn.start (x :: ds)) fn.body) else none) = some d
  rw [if_pos ⟨hio, hl⟩, ← h]
  unfold Fn.start
  rw [hio]; rfl
/-- loops whose turns keep the names -/
theorem forL_same {step : D → Env → Option (Fl × Env)} {kl : List Nat} {env : Env} (hk : env.kill kl = env) : ∀ {xs : List D}, (∀ x ∈ xs, ∃ e', step x env = some (.nx, e') ∧ e'.kill kl = env) → forL step kl xs env = some (.nx, env)
  | [], _ => by rw [forL, hk]
  | x :: xs, h => by
    obtain ⟨e', h1, h2⟩ := h x (List.mem_cons_self ..)
    rw [forL, h1]
    show forL step kl xs (e'.kill kl) = _
    rw [h2]
    exact forL_same hk fun y hy => h y (List.mem_cons_of_mem _ hy)
/-- a loop over data of α, the state in σ -/
theorem forL_foldA {α σ : Type} {step : D → Env → Option (Fl × Env)} {kl : List Nat} (r : α → D) (mk : σ → Env) (g : σ → α → σ) (P : Nat → σ → Prop) :
    ∀ (l : List α) (i : Nat) (s : σ), P i s → (∀ s, (mk s).kill kl = mk s) → (∀ j a s, l[j]? = some a → P (i + j) s → P (i + j + 1) (g s a) ∧ ∃ e', step (r a) (mk s) = some (.nx, e') ∧ e'.kill kl = mk (g s a)) → forL step kl (l.map r) (mk s) = some (.nx, mk (l.foldl g s)) ∧ P (i + l.length) (l.foldl g s)
  | [], i, s, p, hk, _ => ⟨by rw [List.map_nil, forL, hk s]; rfl, p⟩
  | x :: xs, i, s, p, hk, h => by
    obtain ⟨p2, e', h1, h2⟩ := h 0 x s rfl p
    have ih := forL_foldA r mk g P xs (i + 1) (g s x) p2 hk fun j a s hj hp => by
      have := h (j + 1) a s (by simpa using hj) (by rw [show i + (j + 1) = i + 1 + j by omega]; exact hp)
      rw [show i + (j + 1) = i + 1 + j by omega] at this
      exact this
    refine ⟨?_, by rw [List.length_cons, show i + (xs.length + 1) = i + 1 + xs.length by omega]; exact ih.2⟩
    rw [List.map_cons, forL, h1]
    show forL step kl (xs.map r) (e'.kill kl) = _
    rw [h2]; exact ih.1
theorem rgD_nat (n : Nat) : rgD 0 n = (List.range n).map fun (k : Nat) => D.int k := by simp [rgD]
theorem walk_r2 {lo hi : Nat} (h1 : lo < 4611686018427387904) (h2 : hi < 4611686018427387904) : walk .r2 [.int lo, .int hi] = some ((List.range (hi - lo)).map fun (k : Nat) => .int ((lo + k : Nat) : Int)) := by
  simp only [walk]
  rw [if_pos ⟨by omega, by omega, by omega, by omega⟩]
  unfold rgD
  rw [show ((hi : Int) - (lo : Int)).toNat = hi - lo by omega]
  simp
theorem walk_r1m {n : Nat} (h : n < 4611686018427387904) : walk .r1 [.int n] = some ((List.range n).map fun (k : Nat) => D.int k) := by rw [walk_r1 h, rgD_nat]
/-! ### lists of numbers -/
def dV (v : List Nat) : List D := v.map fun (k : Nat) => .int k
def gt (v : List Nat) (i : Nat) : Nat := v.getD i 0
theorem dV_len (v : List Nat) : (dV v).length = v.length := by simp [dV]
theorem dV_get {v : List Nat} {i : Nat} (h : i < v.length) : atI (dV v) (i : Int) = some (.int (gt v i : Nat)) := by
  rw [atI_nat (xs := dV v) (i := i) (d := .int v[i]) (by simp [dV, h])]
  simp [gt, List.getD_eq_getElem?_getD, h]
theorem dV_at {ws : List Nat} {i : Nat} {j : Int} (h : i < ws.length) (hj : j = i) : atI (dV ws) j = some (.int (gt ws i : Nat)) := by
  rw [hj, dV_get h]
theorem gt_lt {v : List Nat} {i : Nat} (h : i < v.length) : gt v i = v[i] := by simp [gt, List.getD_eq_getElem?_getD, h]
theorem gt_mem {v : List Nat} {i : Nat} (h : i < v.length) : gt v i ∈ v := by rw [gt_lt h]; exact List.getElem_mem h
theorem run_rowN {defs : Nat → Option Fn} (h7 : defs 7 = some f_law_mixed) (h8 : defs 8 = some f_law_row) (c : Nat) (ns : List Int) (many : Nat) (hm : many < 1000) : ∃ ws : List Nat, ws.length = many ∧ run defs (c + 2) 8 [.scr ns, .int many] = some (.lst (dV ws)) := by
  obtain ⟨vs, h1, h2, h3⟩ := run_row h7 h8 c ns many hm
  refine ⟨vs.map Int.toNat, by simpa using h1, ?_⟩
  rw [h3]
  congr 2
  unfold dV
  rw [List.map_map]
  refine List.map_congr_left fun v hv => ?_
  have := (h2 v hv).1
  show D.int v = D.int (v.toNat : Nat)
  congr 1; omega
section
variable {G GI : Nat → List D → Option D}
theorem ev_at {env : Env} {ws : List Nat} {i : Nat} {e : E} {v : Nat} {j : Int} (hv : env.bor v = some (.lst (dV ws))) (he : ev G env e = some (.int j)) (h : i < ws.length) (hj : j = i) : ev G env (.b1 .int (.sub (.var v) e)) = some (.int (gt ws i : Nat)) := by
  rw [se_b1, bo_sub, se_sub, bo_var, hv, Option.bind_some, he, Option.bind_some, opSub_lst, dV_at h hj]; rfl
/-- int(row[e]) % m -/
theorem ev_mod {env : Env} {e em : E} {x m : Nat} (he : ev G env e = some (.int (x : Nat))) (hne : ∀ r, bo env e r = r) (hm : bo env em (ev G env em) = some (.int (m : Nat))) (h0 : 0 < m) : ev G env (.bin .mod e em) = some (.int ((x % m : Nat) : Int)) := by
  refine ev_bin_of (by rw [hne, he]) hm ?_
  rw [opB_mod (by omega)]; simp
theorem ev_rowmod {env : Env} {ws : List Nat} {v : Nat} (hv : env.bor v = some (.lst (dV ws))) (i m : Nat) (hi : i < ws.length) (hm : 0 < m) : ev G env (.bin .mod (.b1 .int (.sub (.var v) (.int i))) (.int m)) = some (.int ((gt ws i % m : Nat) : Int)) :=
  ev_mod (ev_at hv se_int hi rfl) (fun _ => bo_b1) (by rw [bo_int, se_int]) hm
theorem ts_call' {env : Env} {f : Nat} {es : List E} {c : Bool} (h : ev G env (.call f es) = some (.bl c)) : ts G env (.val (.call f es)) = some c := ts_val (by rw [bo_call]; exact h) rfl
theorem ev_pure_mul {x y : Nat} (h : x < 18446744073709551616) : opB .mul (.int x) (.int y) = some (.int ((x * y : Nat) : Int)) := by rw [opB_mull (by omega)]; simp
theorem opB_addN {x y : Nat} : opB .add (.int x) (.int y) = some (.int ((x + y : Nat) : Int)) := by rw [opB_add]; simp
theorem opB_modN {x y : Nat} (h : 0 < y) : opB .mod (.int x) (.int y) = some (.int ((x % y : Nat) : Int)) := by rw [opB_mod (by omega)]; simp
theorem opB_fdivN {x y : Nat} (h0 : 0 < y) (h : y < 1073741824) : opB .fdiv (.int x) (.int y) = some (.int ((x / y : Nat) : Int)) := by rw [opB_fdiv (by omega) (by omega)]; simp
theorem opB_subN {x y : Nat} (h : y ≤ x) : opB .sub (.int x) (.int y) = some (.int ((x - y : Nat) : Int)) := by rw [opB_sub]; congr 2; omega
theorem deq_nat {a b : Nat} : decide ((a : Int) = (b : Int)) = decide (a = b) := by
  by_cases h : a = b
  · rw [decide_eq_true h, decide_eq_true (by omega)]
  · rw [decide_eq_false h, decide_eq_false (by omega)]
theorem dle_nat {a b : Nat} : decide ((a : Int) ≤ (b : Int)) = decide (a ≤ b) := by
  by_cases h : a ≤ b
  · rw [decide_eq_true h, decide_eq_true (by omega)]
  · rw [decide_eq_false h, decide_eq_false (by omega)]
theorem dlt_nat {a b : Nat} : decide ((a : Int) < (b : Int)) = decide (a < b) := by
  by_cases h : a < b
  · rw [decide_eq_true h, decide_eq_true (by omega)]
  · rw [decide_eq_false h, decide_eq_false (by omega)]
end
end Rx
end

section
set_option Elab.async false
set_option linter.all false
set_option maxRecDepth 100000
set_option autoImplicit false
/-! L73a: tills, changes, levels (plain). -/
namespace Rx
/-! ### vectors -/
def leV : List Nat → List Nat → Bool
  | [], [] => true
  | x :: xs, y :: ys => decide (x ≤ y) && leV xs ys
  | _, _ => false
theorem leV_len : ∀ {x y : List Nat}, leV x y = true → x.length = y.length
  | [], [], _ => rfl
  | a :: x, b :: y, h => by
    simp only [leV, Bool.and_eq_true] at h
    simp [leV_len h.2]
  | [], _ :: _, h => by simp [leV] at h
  | _ :: _, [], h => by simp [leV] at h
theorem leV_refl : ∀ x : List Nat, leV x x = true
  | [] => rfl
  | a :: x => by simp [leV, leV_refl x]
theorem leV_trans : ∀ {x y z : List Nat}, leV x y = true → leV y z = true → leV x z = true
  | [], [], z, _, h => h
  | a :: x, b :: y, c :: z, h, g => by
    simp only [leV, Bool.and_eq_true, decide_eq_true_eq] at h g ⊢
    exact ⟨by omega, leV_trans h.2 g.2⟩
  | a :: x, b :: y, [], h, g => by simp [leV] at g
  | [], _ :: _, _, h, _ => by simp [leV] at h
  | _ :: _, [], _, h, _ => by simp [leV] at h
theorem leV_sum : ∀ {x y : List Nat}, leV x y = true → x.sum ≤ y.sum ∧ (x.sum = y.sum → x = y)
  | [], [], _ => ⟨Nat.le_refl _, fun _ => rfl⟩
  | a :: x, b :: y, h => by
    simp only [leV, Bool.and_eq_true, decide_eq_true_eq] at h
    obtain ⟨i1, i2⟩ := leV_sum h.2
    simp only [List.sum_cons]
    exact ⟨by omega, fun e => by rw [i2 (by omega), show a = b by omega]⟩
  | [], _ :: _, h => by simp [leV] at h
  | _ :: _, [], h => by simp [leV] at h
theorem leV_at : ∀ {x y : List Nat}, leV x y = true → ∀ i, gt x i ≤ gt y i
  | [], [], _, i => Nat.le_refl _
  | a :: x, b :: y, h, i => by
    simp only [leV, Bool.and_eq_true, decide_eq_true_eq] at h
    cases i with
    | zero => exact h.1
    | succ i => exact leV_at h.2 i
  | [], _ :: _, h, _ => by simp [leV] at h
  | _ :: _, [], h, _ => by simp [leV] at h
theorem leV_all : ∀ {x y : List Nat}, x.length = y.length → (List.range x.length).all (fun k => decide (gt x k ≤ gt y k)) = leV x y
  | [], [], _ => rfl
  | a :: x, b :: y, h => by
    rw [List.length_cons, List.range_succ_eq_map, List.all_cons, List.all_map, leV, ← leV_all (x := x) (y := y) (by simpa using h)]
    rfl
  | [], _ :: _, h => by simp at h
  | _ :: _, [], h => by simp at h
theorem leV_zip : ∀ {x y : List Nat}, x.length = y.length → (x.zip y).all (fun p => decide (p.2 ≤ p.1)) = leV y x
  | [], [], _ => rfl
  | a :: x, b :: y, h => by
    rw [List.zip_cons_cons, List.all_cons, leV, ← leV_zip (x := x) (y := y) (by simpa using h)]
  | [], _ :: _, h => by simp at h
  | _ :: _, [], h => by simp at h
/-- a least one below -/
theorem min_below (l : List (List Nat)) : ∀ (n : Nat) (x : List Nat), x.sum ≤ n → x ∈ l → ∃ m ∈ l, leV m x = true ∧ ∀ o ∈ l, leV o m = true → o = m
  | n, x, hn, hx => by
    by_cases q : ∃ o ∈ l, leV o x = true ∧ o ≠ x
    · obtain ⟨o, h1, h2, h3⟩ := q
      obtain ⟨s1, s2⟩ := leV_sum h2
      have hlt : o.sum < x.sum := Nat.lt_of_le_of_ne s1 fun e => h3 (s2 e)
      cases n with
      | zero => omega
      | succ n =>
        obtain ⟨m, g1, g2, g3⟩ := min_below l n o (by omega) h1
        exact ⟨m, g1, leV_trans g2 h2, g3⟩
    · exact ⟨x, hx, leV_refl x, fun o h1 h2 => Decidable.byContradiction fun h3 => q ⟨o, h1, h2, h3⟩⟩
theorem max_above (l : List (List Nat)) (B : Nat) (hB : ∀ o ∈ l, o.sum ≤ B) : ∀ (n : Nat) (x : List Nat), B - x.sum ≤ n → x ∈ l → ∃ m ∈ l, leV x m = true ∧ ∀ o ∈ l, leV m o = true → o = m
  | n, x, hn, hx => by
    by_cases q : ∃ o ∈ l, leV x o = true ∧ o ≠ x
    · obtain ⟨o, h1, h2, h3⟩ := q
      obtain ⟨s1, s2⟩ := leV_sum h2
      have hlt : x.sum < o.sum := Nat.lt_of_le_of_ne s1 fun e => h3 (s2 e).symm
      have := hB o h1
      cases n with
      | zero => omega
      | succ n =>
        obtain ⟨m, g1, g2, g3⟩ := max_above l B hB n o (by omega) h1
        exact ⟨m, g1, leV_trans h2 g2, g3⟩
    · exact ⟨x, hx, leV_refl x, fun o h1 h2 => Decidable.byContradiction fun h3 => q ⟨o, h1, h2, h3⟩⟩
def leastV (l : List (List Nat)) : List (List Nat) := l.filter fun r => !l.any fun o => (!decide (o = r)) && leV o r
def mostV (l : List (List Nat)) : List (List Nat) := l.filter fun r => !l.any fun o => (!decide (o = r)) && leV r o
theorem mem_leastV {l : List (List Nat)} {r : List Nat} : r ∈ leastV l ↔ r ∈ l ∧ ∀ o ∈ l, leV o r = true → o = r := by
  unfold leastV
  rw [List.mem_filter]
  simp only [Bool.not_eq_true', List.any_eq_false, Bool.and_eq_true, decide_eq_true_eq, Bool.not_eq_eq_eq_not, Bool.not_true, decide_eq_false_iff_not, not_and]
  exact and_congr_right fun _ => ⟨fun h o ho hl => Decidable.byContradiction fun n => h o ho n hl, fun h o ho n hl => n (h o ho hl)⟩
theorem mem_mostV {l : List (List Nat)} {r : List Nat} : r ∈ mostV l ↔ r ∈ l ∧ ∀ o ∈ l, leV r o = true → o = r := by
  unfold mostV
  rw [List.mem_filter]
  simp only [Bool.not_eq_true', List.any_eq_false, Bool.and_eq_true, decide_eq_true_eq, Bool.not_eq_eq_eq_not, Bool.not_true, decide_eq_false_iff_not, not_and]
  exact and_congr_right fun _ => ⟨fun h o ho hl => Decidable.byContradiction fun n => h o ho n hl, fun h o ho n hl => n (h o ho hl)⟩
/-! ### contents -/
def grow (rows : List (List Nat)) (cap : Nat) : List (List Nat) := rows.flatMap fun row => (List.range (cap + 1)).map fun k => row ++ [k]
def conts (caps : List Nat) : List (List Nat) := caps.foldl grow [[]]
theorem mem_contF : ∀ (caps : List Nat) (rows : List (List Nat)) (c : List Nat), c ∈ caps.foldl grow rows ↔ ∃ p ∈ rows, ∃ q, c = p ++ q ∧ leV q caps = true
  | [], rows, c => by
    rw [List.foldl_nil]
    constructor
    · exact fun h => ⟨c, h, [], by simp, rfl⟩
    · rintro ⟨p, h, q, e, g⟩
      have := leV_len g
      obtain rfl : q = [] := List.length_eq_zero_iff.mp (by simpa using this)
      rw [e, List.append_nil]; exact h
  | cap :: caps, rows, c => by
    rw [List.foldl_cons, mem_contF caps]
    constructor
    · rintro ⟨p, h, q, e, g⟩
      obtain ⟨r, h1, h2⟩ := List.mem_flatMap.mp h
      obtain ⟨k, h3, h4⟩ := List.mem_map.mp h2
      refine ⟨r, h1, k :: q, by rw [e, ← h4]; simp, ?_⟩
      have := List.mem_range.mp h3
      simp only [leV, Bool.and_eq_true, decide_eq_true_eq]
      exact ⟨by omega, g⟩
    · rintro ⟨p, h, q, e, g⟩
      cases q with
      | nil => simp [leV] at g
      | cons k q =>
        simp only [leV, Bool.and_eq_true, decide_eq_true_eq] at g
        exact ⟨p ++ [k], List.mem_flatMap.mpr ⟨p, h, List.mem_map.mpr ⟨k, List.mem_range.mpr (by omega), rfl⟩⟩, q, by rw [e]; simp, g.2⟩
theorem mem_conts {caps c : List Nat} : c ∈ conts caps ↔ leV c caps = true := by
  unfold conts
  rw [mem_contF]
  constructor
  · rintro ⟨p, h, q, e, g⟩
    rw [List.mem_singleton] at h
    subst h
    rw [e]; exact g
  · exact fun h => ⟨[], by simp, c, rfl, h⟩
theorem nodup_grow {rows : List (List Nat)} (cap : Nat) (h : rows.Nodup) : (grow rows cap).Nodup := by
  unfold grow
  rw [List.nodup_iff_pairwise_ne, List.pairwise_flatMap]
  refine ⟨fun a _ => ?_, ?_⟩
  · rw [List.pairwise_map]
    refine List.nodup_range.imp ?_
    intro i j hij e
    have := List.append_cancel_left e
    exact hij (by simpa using this)
  · refine (List.nodup_iff_pairwise_ne.mp h).imp ?_
    intro a b hab x hx y hy e
    obtain ⟨i, _, h1⟩ := List.mem_map.mp hx
    obtain ⟨j, _, h2⟩ := List.mem_map.mp hy
    rw [← h1, ← h2] at e
    exact hab (List.append_inj_left' e rfl)
theorem nodup_contF : ∀ (caps : List Nat) (rows : List (List Nat)), rows.Nodup → (caps.foldl grow rows).Nodup
  | [], _, h => h
  | cap :: caps, rows, h => nodup_contF caps _ (nodup_grow cap h)
theorem nodup_conts (caps : List Nat) : (conts caps).Nodup := nodup_contF caps _ (by simp)
theorem len_grow (rows : List (List Nat)) (cap : Nat) : (grow rows cap).length = rows.length * (cap + 1) := by
  unfold grow
  rw [List.length_flatMap]
  simp only [List.length_map, List.length_range]
  induction rows with
  | nil => simp
  | cons r rows ih => rw [List.map_cons, List.sum_cons, ih, List.length_cons, Nat.succ_mul]; omega
theorem len_contF : ∀ (caps : List Nat) (rows : List (List Nat)), (∀ k ∈ caps, k ≤ 3) → (caps.foldl grow rows).length ≤ rows.length * 4 ^ caps.length
  | [], rows, _ => by simp
  | cap :: caps, rows, h => by
    have h1 := len_contF caps (grow rows cap) fun k hk => h k (List.mem_cons_of_mem _ hk)
    rw [len_grow] at h1
    have h2 := h cap (List.mem_cons_self ..)
    rw [List.foldl_cons, List.length_cons, Nat.pow_succ, Nat.mul_comm (4 ^ _) 4, ← Nat.mul_assoc]
    exact Nat.le_trans h1 (Nat.mul_le_mul_right _ (Nat.mul_le_mul_left _ (by omega)))
/-! ### changes -/
def dt (vs q : List Nat) : Nat := ((vs.zip q).map fun p => p.1 * p.2).sum
def chG (due : Nat) (rows : List (List Nat × Nat)) (vk : Nat × Nat) : List (List Nat × Nat) := rows.flatMap fun r => ((List.range (vk.2 + 1)).filter fun t => decide (r.2 + t * vk.1 ≤ due)).map fun t => (r.1 ++ [t], r.2 + t * vk.1)
def chs (vs ks : List Nat) (due : Nat) : List (List Nat) := (((vs.zip ks).foldl (chG due) [([], 0)]).filter fun r => decide (r.2 = due)).map (·.1)
theorem mem_chF (due : Nat) : ∀ (vs ks : List Nat) (rows : List (List Nat × Nat)) (row : List Nat) (p : Nat), vs.length = ks.length → ((row, p) ∈ (vs.zip ks).foldl (chG due) rows → ∃ r ∈ rows, ∃ q, row = r.1 ++ q ∧ leV q ks = true ∧ p = r.2 + dt vs q) ∧
    (p ≤ due → (∃ r ∈ rows, ∃ q, row = r.1 ++ q ∧ leV q ks = true ∧ p = r.2 + dt vs q) → (row, p) ∈ (vs.zip ks).foldl (chG due) rows)
  | [], [], rows, row, p, _ => by
    refine ⟨fun h => ⟨(row, p), h, [], by simp, rfl, rfl⟩, ?_⟩
    rintro hp ⟨r, h, q, e, g, hd⟩
    have := leV_len g
    obtain rfl : q = [] := List.length_eq_zero_iff.mp (by simpa using this)
    have e1 : (row, p) = r := by rw [e, hd]; simp [dt]
    rw [e1]; exact h
  | v :: vs, k :: ks, rows, row, p, hl => by
    have ih := mem_chF due vs ks (chG due rows (v, k)) row p (by simpa using hl)
    rw [List.zip_cons_cons, List.foldl_cons]
    constructor
    · intro h
      obtain ⟨r, h1, q, e, g, hd⟩ := ih.1 h
      obtain ⟨r0, h2, h3⟩ := List.mem_flatMap.mp h1
      obtain ⟨t, h4, h5⟩ := List.mem_map.mp h3
      have h6 := List.mem_range.mp (List.mem_filter.mp h4).1
      simp only at h6 h5
      refine ⟨r0, h2, t :: q, by rw [e, ← h5]; simp, ?_, ?_⟩
      · simp only [leV, Bool.and_eq_true, decide_eq_true_eq]
        exact ⟨by omega, g⟩
      · rw [hd, ← h5]
        show r0.2 + t * v + dt vs q = r0.2 + (v * t + dt vs q)
        rw [Nat.mul_comm t v, Nat.add_assoc]
    · rintro hp ⟨r, h, q, e, g, hd⟩
      cases q with
      | nil => simp [leV] at g
      | cons t q =>
        simp only [leV, Bool.and_eq_true, decide_eq_true_eq] at g
        have hd' : p = r.2 + t * v + dt vs q := by
          rw [hd]
          show r.2 + (v * t + dt vs q) = _
          rw [Nat.mul_comm t v, Nat.add_assoc]
        refine ih.2 hp ⟨(r.1 ++ [t], r.2 + t * v), List.mem_flatMap.mpr ⟨r, h, List.mem_map.mpr ⟨t, List.mem_filter.mpr ⟨List.mem_range.mpr ?_, decide_eq_true ?_⟩, rfl⟩⟩, q, by rw [e]; simp, g.2, hd'⟩
        · show t < k + 1
          omega
        · show r.2 + t * v ≤ due
          omega
  | [], _ :: _, _, _, _, hl => by simp at hl
  | _ :: _, [], _, _, _, hl => by simp at hl
theorem mem_chs {vs ks : List Nat} {due : Nat} {q : List Nat} (hl : vs.length = ks.length) : q ∈ chs vs ks due ↔ leV q ks = true ∧ dt vs q = due := by
  unfold chs
  rw [List.mem_map]
  constructor
  · rintro ⟨r, h, rfl⟩
    obtain ⟨h1, h2⟩ := List.mem_filter.mp h
    obtain ⟨r0, h3, q, e, g, hd⟩ := (mem_chF due vs ks [([], 0)] r.1 r.2 hl).1 h1
    rw [List.mem_singleton] at h3
    subst h3
    simp at e hd h2
    rw [e]
    exact ⟨g, by omega⟩
  · rintro ⟨g, hd⟩
    exact ⟨(q, due), List.mem_filter.mpr ⟨(mem_chF due vs ks [([], 0)] q due hl).2 (Nat.le_refl _) ⟨([], 0), by simp, q, by simp, g, by simp [hd]⟩, by simp⟩, rfl⟩
theorem len_chG (due : Nat) (rows : List (List Nat × Nat)) (vk : Nat × Nat) (h : vk.2 ≤ 5) : (chG due rows vk).length ≤ rows.length * 6 := by
  unfold chG
  rw [List.length_flatMap]
  induction rows with
  | nil => simp
  | cons r rows ih =>
    rw [List.map_cons, List.sum_cons, List.length_cons, Nat.succ_mul]
    have := List.length_filter_le (fun t => decide (r.2 + t * vk.1 ≤ due)) (List.range (vk.2 + 1))
    rw [List.length_range] at this
    rw [List.length_map]
    omega
theorem len_chF (due : Nat) : ∀ (l : List (Nat × Nat)) (rows : List (List Nat × Nat)), (∀ p ∈ l, p.2 ≤ 5) → (l.foldl (chG due) rows).length ≤ rows.length * 6 ^ l.length
  | [], rows, _ => by simp
  | x :: l, rows, h => by
    have h1 := len_chF due l (chG due rows x) fun k hk => h k (List.mem_cons_of_mem _ hk)
    have h2 := len_chG due rows x (h x (List.mem_cons_self ..))
    rw [List.foldl_cons, List.length_cons, Nat.pow_succ, Nat.mul_comm (6 ^ _) 6, ← Nat.mul_assoc]
    exact Nat.le_trans h1 (Nat.mul_le_mul_right _ h2)
def wg (c g : List Nat) : List Nat := (c.zip g).map fun p => p.1 + p.2
def bh (caps th ch : List Nat) : List Nat := (caps.zip (th.zip ch)).map fun p => min p.1 (p.2.1 - p.2.2)
theorem wg_len {c g : List Nat} (h : c.length = g.length) : (wg c g).length = c.length := by simp [wg, h]
theorem wg_mono : ∀ {c d g : List Nat}, leV c d = true → leV (wg c g) (wg d g) = true
  | [], [], g, _ => rfl
  | a :: c, b :: d, [], h => rfl
  | a :: c, b :: d, x :: g, h => by
    simp only [leV, Bool.and_eq_true, decide_eq_true_eq] at h
    show (decide (a + x ≤ b + x) && leV (wg c g) (wg d g)) = true
    simp only [Bool.and_eq_true, decide_eq_true_eq]
    exact ⟨by omega, wg_mono h.2⟩
  | [], _ :: _, _, h => by simp [leV] at h
  | _ :: _, [], _, h => by simp [leV] at h
theorem bh_le : ∀ {caps th ch : List Nat}, caps.length = th.length → ch.length = th.length → leV (bh caps th ch) caps = true
  | [], [], [], _, _ => rfl
  | a :: caps, b :: th, c :: ch, h, g => by
    show (decide (min a (b - c) ≤ a) && leV (bh caps th ch) caps) = true
    simp only [Bool.and_eq_true, decide_eq_true_eq]
    exact ⟨by omega, bh_le (by simpa using h) (by simpa using g)⟩
  | [], _ :: _, _, h, _ => by simp at h
  | _ :: _, [], _, h, _ => by simp at h
  | _ :: _, _ :: _, [], _, h => by simp at h
  | [], [], _ :: _, _, h => by simp at h
theorem bh_mono : ∀ {caps cap2 th th2 ch : List Nat}, leV caps cap2 = true → leV th th2 = true → leV (bh caps th ch) (bh cap2 th2 ch) = true
  | [], [], th, th2, ch, _, _ => rfl
  | a :: caps, b :: cap2, [], [], ch, _, _ => rfl
  | a :: caps, b :: cap2, x :: th, y :: th2, [], _, _ => rfl
  | a :: caps, b :: cap2, x :: th, y :: th2, c :: ch, h, g => by
    simp only [leV, Bool.and_eq_true, decide_eq_true_eq] at h g
    show (decide (min a (x - c) ≤ min b (y - c)) && leV (bh caps th ch) (bh cap2 th2 ch)) = true
    simp only [Bool.and_eq_true, decide_eq_true_eq]
    exact ⟨by omega, bh_mono h.2 g.2⟩
  | [], _ :: _, _, _, _, h, _ => by simp [leV] at h
  | _ :: _, [], _, _, _, h, _ => by simp [leV] at h
  | _ :: _, _ :: _, [], _ :: _, _, _, h => by simp [leV] at h
  | _ :: _, _ :: _, _ :: _, [], _, _, h => by simp [leV] at h
/-! ### tills -/
structure Shop where
  vs : List Nat
  caps : List Nat
  ks : List (List Nat × Nat)
def dueS (s : Shop) (kd : List Nat × Nat) : Nat := dt s.vs kd.1 - kd.2
def chsS (s : Shop) (c : List Nat) (kd : List Nat × Nat) : List (List Nat) := chs s.vs (wg c kd.1) (dueS s kd)
def beh (s : Shop) (c : List Nat) (kd : List Nat × Nat) : List (List Nat) := (chsS s c kd).map (bh s.caps (wg c kd.1))
structure Sh (s : Shop) : Prop where
  nv : s.vs.length ≤ 3
  v10 : ∀ v ∈ s.vs, v ≤ 10
  nc : s.caps.length = s.vs.length
  c3 : ∀ k ∈ s.caps, k ≤ 3
  nk : s.ks.length ≤ 3
  kd : ∀ k ∈ s.ks, k.1.length = s.vs.length ∧ (∀ g ∈ k.1, g ≤ 2) ∧ k.2 ≤ dt s.vs k.1
def Fai (s : Shop) : Nat → List Nat → Prop
  | 0, _ => False
  | t + 1, c => ∃ kd ∈ s.ks, ∀ b ∈ beh s c kd, Fai s t b
theorem Fai_up (s : Shop) : ∀ (t : Nat) (c : List Nat), Fai s t c → Fai s (t + 1) c
  | 0, _, h => False.elim h
  | t + 1, c, ⟨kd, h1, h2⟩ => ⟨kd, h1, fun b hb => Fai_up s t b (h2 b hb)⟩
theorem Fai_mono (s : Shop) {t u : Nat} (h : t ≤ u) {c : List Nat} (f : Fai s t c) : Fai s u c := by
  obtain ⟨d, rfl⟩ := Nat.le.dest h
  clear h
  induction d with
  | zero => exact f
  | succ d ih => exact Fai_up s _ _ ih
/-- more room, more coins: no sooner out of change -/
theorem Fai_less {vs caps cap2 : List Nat} {ks : List (List Nat × Nat)} (hn : ∀ k ∈ ks, k.1.length = vs.length) (hc : leV caps cap2 = true) (hl : cap2.length = vs.length) : ∀ (t : Nat) (c d : List Nat), d.length = vs.length → leV c d = true → Fai ⟨vs, cap2, ks⟩ t d → Fai ⟨vs, caps, ks⟩ t c
  | 0, _, _, _, _, f => f
  | t + 1, c, d, hd, h, ⟨kd, h1, h2⟩ => by
    refine ⟨kd, h1, fun b hb => ?_⟩
    have hk := hn kd h1
    have hcl := leV_len h
    obtain ⟨ch, g1, rfl⟩ := List.mem_map.mp hb
    obtain ⟨g2, g3⟩ := (mem_chs (by rw [wg_len (by omega)]; show vs.length = _; omega)).mp (show ch ∈ chs vs (wg c kd.1) _ from g1)
    have g4 : ch ∈ chs vs (wg d kd.1) (dueS ⟨vs, cap2, ks⟩ kd) := (mem_chs (by rw [wg_len (by omega)]; omega)).mpr ⟨leV_trans g2 (wg_mono h), g3⟩
    have g5 := h2 _ (List.mem_map.mpr ⟨ch, g4, rfl⟩)
    refine Fai_less hn hc hl t _ (bh cap2 (wg d kd.1) ch) ?_ (bh_mono hc (wg_mono h)) g5
    have := leV_len g2
    have e1 : (wg c kd.1).length = c.length := wg_len (by omega)
    rw [leV_len (bh_le (caps := cap2) (th := wg d kd.1) (ch := ch) (by rw [wg_len (by omega)]; omega) (by rw [wg_len (by omega)]; omega))]
    exact hl
theorem beh_in {s : Shop} (S : Sh s) {c : List Nat} (hc : leV c s.caps = true) {kd : List Nat × Nat} (hk : kd ∈ s.ks) {b : List Nat} (hb : b ∈ beh s c kd) : leV b s.caps = true := by
  obtain ⟨ch, g1, rfl⟩ := List.mem_map.mp hb
  have h1 := (S.kd kd hk).1
  have h2 := leV_len hc
  have h3 := S.nc
  have e1 : (wg c kd.1).length = c.length := wg_len (by omega)
  obtain ⟨g2, _⟩ := (mem_chs (by omega)).mp (show ch ∈ chs s.vs (wg c kd.1) _ from g1)
  have := leV_len g2
  exact bh_le (by omega) (by omega)
/-! ### levels -/
def fresh (s : Shop) (L : List (List Nat)) : List (List Nat) := (conts s.caps).filter fun c => !L.contains c && s.ks.any fun kd => (beh s c kd).all fun b => L.contains b
def Lv (s : Shop) : Nat → List (List Nat)
  | 0 => []
  | t + 1 => Lv s t ++ fresh s (Lv s t)
theorem mem_fresh {s : Shop} {L : List (List Nat)} {c : List Nat} : c ∈ fresh s L ↔ leV c s.caps = true ∧ c ∉ L ∧ ∃ kd ∈ s.ks, ∀ b ∈ beh s c kd, b ∈ L := by
  unfold fresh
  rw [List.mem_filter, mem_conts]
  simp
theorem Lv_in {s : Shop} : ∀ {t : Nat} {c : List Nat}, c ∈ Lv s t → leV c s.caps = true
  | 0, _, h => by cases h
  | t + 1, c, h => by
    rcases List.mem_append.mp h with h | h
    · exact Lv_in h
    · exact (mem_fresh.mp h).1
theorem mem_Lv {s : Shop} (S : Sh s) : ∀ {t : Nat} {c : List Nat}, leV c s.caps = true → (c ∈ Lv s t ↔ Fai s t c)
  | 0, c, _ => by simp [Lv, Fai]
  | t + 1, c, hc => by
    rw [Lv, List.mem_append, mem_fresh, mem_Lv S hc]
    constructor
    · rintro (h | ⟨_, _, kd, h1, h2⟩)
      · exact Fai_up s t c h
      · exact ⟨kd, h1, fun b hb => (mem_Lv S (beh_in S hc h1 hb)).mp (h2 b hb)⟩
    · rintro ⟨kd, h1, h2⟩
      by_cases q : Fai s t c
      · exact .inl q
      · exact .inr ⟨hc, q, kd, h1, fun b hb => (mem_Lv S (beh_in S hc h1 hb)).mpr (h2 b hb)⟩
theorem Lv_nodup {s : Shop} : ∀ t : Nat, (Lv s t).Nodup
  | 0 => by simp [Lv]
  | t + 1 => by
    rw [Lv, List.nodup_append]
    refine ⟨Lv_nodup t, (nodup_conts _).filter _, fun a ha b hb e => ?_⟩
    subst e
    exact (mem_fresh.mp hb).2.1 ha
theorem sub_len {α : Type} [DecidableEq α] : ∀ (l w : List α), w.Nodup → (∀ x ∈ w, x ∈ l) → w.length ≤ l.length
  | l, [], _, _ => Nat.zero_le _
  | l, x :: w, hn, h => by
    have hx := h x (List.mem_cons_self ..)
    have hn' := List.nodup_cons.mp hn
    have h1 := sub_len (l.erase x) w hn'.2 fun y hy => (List.mem_erase_of_ne (fun e => hn'.1 (by rw [← e]; exact hy))).mpr (h y (List.mem_cons_of_mem _ hy))
    rw [List.length_erase_of_mem hx] at h1
    have := List.length_pos_of_mem hx
    rw [List.length_cons]; omega
theorem Lv_len {s : Shop} : ∀ t : Nat, (∀ u < t, fresh s (Lv s u) ≠ []) → t ≤ (Lv s t).length
  | 0, _ => Nat.zero_le _
  | t + 1, h => by
    have h1 := Lv_len t fun u hu => h u (by omega)
    have h2 := List.length_pos_iff.mpr (h t (by omega))
    rw [Lv, List.length_append]; omega
theorem Lv_bound (s : Shop) (t : Nat) : (Lv s t).length ≤ (conts s.caps).length := sub_len _ _ (Lv_nodup t) fun c hc => mem_conts.mpr (Lv_in hc)
theorem first_of (p : Nat → Prop) [DecidablePred p] : ∀ n, (∃ k, k ≤ n ∧ p k) → ∃ k, k ≤ n ∧ p k ∧ ∀ j < k, ¬ p j
  | 0, ⟨k, h, q⟩ => ⟨k, h, q, fun j hj => by omega⟩
  | n + 1, ⟨k, h, q⟩ => by
    by_cases z : ∃ k, k ≤ n ∧ p k
    · obtain ⟨k, h1, h2, h3⟩ := first_of p n z
      exact ⟨k, by omega, h2, h3⟩
    · exact ⟨k, h, q, fun j hj hp => z ⟨j, by omega, hp⟩⟩
theorem turns_ex (s : Shop) : ∃ T, T ≤ (conts s.caps).length ∧ fresh s (Lv s T) = [] ∧ ∀ t < T, fresh s (Lv s t) ≠ [] := by
  refine first_of (fun t => fresh s (Lv s t) = []) (conts s.caps).length ?_
  refine Decidable.byContradiction fun n => ?_
  have h1 := Lv_len (s := s) ((conts s.caps).length + 1) fun u hu e => n ⟨u, by omega, e⟩
  have := Lv_bound s ((conts s.caps).length + 1)
  omega
noncomputable def Tn (s : Shop) : Nat := Classical.choose (turns_ex s)
theorem Tn_le (s : Shop) : Tn s ≤ (conts s.caps).length := (Classical.choose_spec (turns_ex s)).1
theorem Tn_end (s : Shop) : fresh s (Lv s (Tn s)) = [] := (Classical.choose_spec (turns_ex s)).2.1
theorem Tn_on (s : Shop) {t : Nat} (h : t < Tn s) : fresh s (Lv s t) ≠ [] := (Classical.choose_spec (turns_ex s)).2.2 t h
theorem Lv_stay {s : Shop} : ∀ d : Nat, Lv s (Tn s + d) = Lv s (Tn s)
  | 0 => rfl
  | d + 1 => by
    show Lv s (Tn s + d) ++ fresh s (Lv s (Tn s + d)) = _
    rw [Lv_stay d, Tn_end, List.append_nil]
/-! ### ranks -/
def As (s : Shop) : Nat → List (List Nat × Nat)
  | 0 => []
  | t + 1 => As s t ++ (fresh s (Lv s t)).map fun c => (c, t + 1)
theorem As_keys (s : Shop) : ∀ t, (As s t).map (·.1) = Lv s t
  | 0 => rfl
  | t + 1 => by
    rw [As, Lv, List.map_append, As_keys s t, List.map_map]
    show Lv s t ++ (fresh s (Lv s t)).map (fun c => c) = _
    rw [List.map_id']
def lkA (L : List (List Nat × Nat)) (c : List Nat) : Option Nat := (L.find? fun p => decide (p.1 = c)).map (·.2)
noncomputable def rk (s : Shop) (c : List Nat) : Option Nat := lkA (As s (Tn s)) c
theorem As_mem {s : Shop} : ∀ {t : Nat} {c : List Nat} {r : Nat}, (c, r) ∈ As s t → 0 < r ∧ r ≤ t ∧ c ∈ Lv s r ∧ c ∉ Lv s (r - 1)
  | 0, c, r, h => by cases h
  | t + 1, c, r, h => by
    rcases List.mem_append.mp h with h | h
    · obtain ⟨h1, h2, h3, h4⟩ := As_mem h
      exact ⟨h1, by omega, h3, h4⟩
    · obtain ⟨c', h1, e⟩ := List.mem_map.mp h
      cases e
      exact ⟨by omega, by omega, List.mem_append_right _ h1, (mem_fresh.mp h1).2.1⟩
theorem lkA_none {L : List (List Nat × Nat)} {c : List Nat} (h : lkA L c = none) : c ∉ L.map (·.1) := by
  intro hc
  obtain ⟨p, hp, rfl⟩ := List.mem_map.mp hc
  have := List.find?_eq_none.mp (Option.map_eq_none_iff.mp h) p hp
  simp at this
theorem lkA_some {L : List (List Nat × Nat)} {c : List Nat} {r : Nat} (h : lkA L c = some r) : (c, r) ∈ L := by
  obtain ⟨p, hp, rfl⟩ := Option.map_eq_some_iff.mp h
  have h1 := List.mem_of_find?_eq_some hp
  have h2 := List.find?_some hp
  simp at h2
  rw [← h2]; exact h1
theorem rk_none {s : Shop} (S : Sh s) {c : List Nat} (hc : leV c s.caps = true) (h : rk s c = none) : ∀ t, ¬ Fai s t c := fun t f => by
  have h1 := lkA_none h
  rw [As_keys] at h1
  have f1 := Fai_mono s (show t ≤ Tn s + t by omega) f
  rw [← mem_Lv S hc, Lv_stay] at f1
  exact h1 f1
theorem rk_some {s : Shop} (S : Sh s) {c : List Nat} (hc : leV c s.caps = true) {r : Nat} (h : rk s c = some r) : 0 < r ∧ r ≤ Tn s ∧ Fai s r c ∧ ¬ Fai s (r - 1) c := by
  obtain ⟨h1, h2, h3, h4⟩ := As_mem (lkA_some h)
  exact ⟨h1, h2, (mem_Lv S hc).mp h3, fun f => h4 ((mem_Lv S hc).mpr f)⟩
/-- within t turns -/
theorem rk_le {s : Shop} (S : Sh s) {c : List Nat} (hc : leV c s.caps = true) {t : Nat} : Fai s t c ↔ ∃ r, rk s c = some r ∧ r ≤ t := by
  constructor
  · intro f
    cases h : rk s c with
    | none => exact absurd f (rk_none S hc h t)
    | some r =>
      refine ⟨r, rfl, ?_⟩
      obtain ⟨h1, h2, h3, h4⟩ := rk_some S hc h
      exact Decidable.byContradiction fun n => h4 (Fai_mono s (by omega) f)
  · rintro ⟨r, h, hr⟩
    exact Fai_mono s hr (rk_some S hc h).2.2.1
end Rx
end

section
set_option Elab.async false
set_option linter.all false
set_option maxRecDepth 100000
set_option autoImplicit false
/-! L73b: what the law asks of ranks (plain). -/
namespace Rx
theorem asc_ext : ∀ {l w : List Int}, l.Pairwise (· < ·) → w.Pairwise (· < ·) → (∀ x, x ∈ l ↔ x ∈ w) → l = w
  | [], [], _, _, _ => rfl
  | [], y :: w, _, _, h => by have := (h y).mpr (List.mem_cons_self ..); cases this
  | x :: l, [], _, _, h => by have := (h x).mp (List.mem_cons_self ..); cases this
  | x :: l, y :: w, hl, hw, h => by
    obtain ⟨l1, l2⟩ := List.pairwise_cons.mp hl
    obtain ⟨w1, w2⟩ := List.pairwise_cons.mp hw
    have e : x = y := by
      rcases List.mem_cons.mp ((h x).mp (List.mem_cons_self ..)) with q | q
      · exact q
      · rcases List.mem_cons.mp ((h y).mpr (List.mem_cons_self ..)) with z | z
        · exact z.symm
        · have := w1 x q
          have := l1 y z
          omega
    subst e
    rw [asc_ext l2 w2 fun z => ⟨fun hz => ?_, fun hz => ?_⟩]
    · rcases List.mem_cons.mp ((h z).mp (List.mem_cons_of_mem _ hz)) with q | q
      · have := l1 z hz; omega
      · exact q
    · rcases List.mem_cons.mp ((h z).mpr (List.mem_cons_of_mem _ hz)) with q | q
      · have := w1 z hz; omega
      · exact q
theorem leV_bd {n : Nat} : ∀ {x y : List Nat}, leV x y = true → (∀ k ∈ y, k ≤ n) → ∀ k ∈ x, k ≤ n
  | [], [], _, _, k, hk => by cases hk
  | a :: x, b :: y, h, hb, k, hk => by
    simp only [leV, Bool.and_eq_true, decide_eq_true_eq] at h
    rcases List.mem_cons.mp hk with rfl | hk
    · have := hb b (List.mem_cons_self ..); omega
    · exact leV_bd h.2 (fun k hk => hb k (List.mem_cons_of_mem _ hk)) k hk
  | [], _ :: _, h, _, _, _ => by simp [leV] at h
  | _ :: _, [], h, _, _, _ => by simp [leV] at h
section
variable {s : Shop} (S : Sh s)
include S
theorem Sh_len {c : List Nat} (h : leV c s.caps = true) : c.length = s.vs.length := (leV_len h).trans S.nc
theorem Sh_room {r : List Nat} (h : leV r s.caps = true) : Sh ⟨s.vs, r, s.ks⟩ := ⟨S.nv, S.v10, Sh_len S h, leV_bd h S.c3, S.nk, S.kd⟩
theorem Fai_leS {c d : List Nat} (h : leV c d = true) (hd : leV d s.caps = true) {t : Nat} (f : Fai s t d) : Fai s t c :=
  Fai_less (vs := s.vs) (caps := s.caps) (cap2 := s.caps) (ks := s.ks) (fun k hk => (S.kd k hk).1) (leV_refl _) S.nc t c d (Sh_len S hd) h f
theorem rk_isNone {c : List Nat} (h : leV c s.caps = true) : (rk s c).isNone = true ↔ ∀ t, ¬ Fai s t c := by
  constructor
  · intro e
    exact rk_none S h (Option.isNone_iff_eq_none.mp e)
  · intro f
    cases e : rk s c with
    | none => rfl
    | some r => exact absurd (rk_some S h e).2.2.1 (f r)
theorem rk_each {t : Nat} (h : t < Tn s) : ∃ c, leV c s.caps = true ∧ rk s c = some (t + 1) := by
  obtain ⟨c, hc⟩ := List.exists_mem_of_ne_nil _ (Tn_on s h)
  obtain ⟨h1, h2, h3⟩ := mem_fresh.mp hc
  have f1 : Fai s (t + 1) c := (mem_Lv S h1).mp (List.mem_append_right _ hc)
  obtain ⟨r, e, hr⟩ := (rk_le S h1).mp f1
  obtain ⟨q1, q2, q3, q4⟩ := rk_some S h1 e
  have : r = t + 1 := by
    refine Decidable.byContradiction fun n => h2 ((mem_Lv S h1).mpr (Fai_mono s (show r ≤ t by omega) q3))
  exact ⟨c, h1, by rw [e, this]⟩
theorem worst_top (h : 0 < Tn s) : ∃ m ∈ mostV ((conts s.caps).filter fun c => (rk s c).isSome), rk s m = some (Tn s) := by
  obtain ⟨c, h1, h2⟩ := rk_each S (t := Tn s - 1) (by omega)
  rw [show Tn s - 1 + 1 = Tn s by omega] at h2
  have hl : ∀ o ∈ (conts s.caps).filter (fun c => (rk s c).isSome), leV o s.caps = true ∧ (rk s o).isSome = true := fun o ho => by
    obtain ⟨a, b⟩ := List.mem_filter.mp ho
    exact ⟨mem_conts.mp a, b⟩
  obtain ⟨m, g1, g2, g3⟩ := max_above ((conts s.caps).filter fun c => (rk s c).isSome) s.caps.sum (fun o ho => (leV_sum (hl o ho).1).1) _ c (Nat.le_refl _) (List.mem_filter.mpr ⟨mem_conts.mpr h1, by rw [h2]; rfl⟩)
  refine ⟨m, mem_mostV.mpr ⟨g1, g3⟩, ?_⟩
  obtain ⟨k1, k2⟩ := hl m g1
  obtain ⟨r, e⟩ := Option.isSome_iff_exists.mp k2
  obtain ⟨q1, q2, q3, q4⟩ := rk_some S k1 e
  obtain ⟨r', e', hr'⟩ := (rk_le S h1).mp (Fai_leS S g2 k1 q3)
  rw [h2] at e'
  cases e'
  rw [e]; congr 1; omega
theorem worst_none (h : Tn s = 0) : mostV ((conts s.caps).filter fun c => (rk s c).isSome) = [] := by
  refine List.eq_nil_iff_forall_not_mem.mpr fun m hm => ?_
  obtain ⟨a, b⟩ := List.mem_filter.mp (mem_mostV.mp hm).1
  obtain ⟨r, e⟩ := Option.isSome_iff_exists.mp b
  obtain ⟨q1, q2, _⟩ := rk_some S (mem_conts.mp a) e
  omega
theorem safe_above {c : List Nat} (h : leV c s.caps = true) : (rk s c).isNone = (leastV ((conts s.caps).filter fun c => (rk s c).isNone)).any fun f => leV f c := by
  rw [Bool.eq_iff_iff, List.any_eq_true]
  constructor
  · intro e
    obtain ⟨m, g1, g2, g3⟩ := min_below ((conts s.caps).filter fun c => (rk s c).isNone) _ c (Nat.le_refl _) (List.mem_filter.mpr ⟨mem_conts.mpr h, e⟩)
    exact ⟨m, mem_leastV.mpr ⟨g1, g3⟩, g2⟩
  · rintro ⟨f, h1, h2⟩
    obtain ⟨a, b⟩ := List.mem_filter.mp (mem_leastV.mp h1).1
    have hf := (rk_isNone S (mem_conts.mp a)).mp b
    exact (rk_isNone S h).mpr fun t q => hf t (Fai_leS S h2 h q)
theorem set_ranks : setSort (((conts s.caps).filter fun c => (rk s c).isSome).map fun c => (((rk s c).getD 0 : Nat) : Int)) = (List.range (Tn s)).map fun (k : Nat) => ((1 + k : Nat) : Int) := by
  refine asc_ext (setSort_lt _) ?_ fun x => ?_
  · rw [List.pairwise_map]
    exact List.pairwise_lt_range.imp fun h => by omega
  · rw [setSort_mem, List.mem_map, List.mem_map]
    constructor
    · rintro ⟨c, hc, rfl⟩
      obtain ⟨a, b⟩ := List.mem_filter.mp hc
      obtain ⟨r, e⟩ := Option.isSome_iff_exists.mp b
      obtain ⟨q1, q2, _⟩ := rk_some S (mem_conts.mp a) e
      refine ⟨r - 1, List.mem_range.mpr (by omega), ?_⟩
      rw [e]
      show ((1 + (r - 1) : Nat) : Int) = ((r : Nat) : Int)
      congr 1; omega
    · rintro ⟨k, hk, rfl⟩
      obtain ⟨c, h1, h2⟩ := rk_each S (List.mem_range.mp hk)
      refine ⟨c, List.mem_filter.mpr ⟨mem_conts.mpr h1, by rw [h2]; rfl⟩, ?_⟩
      rw [h2]
      show ((k + 1 : Nat) : Int) = ((1 + k : Nat) : Int)
      congr 1; omega
theorem none_in {c : List Nat} (h : leV c s.caps = true) (e : rk s c = none) {kd : List Nat × Nat} (hk : kd ∈ s.ks) : ∃ b ∈ beh s c kd, rk s b = none := by
  refine Decidable.byContradiction fun n => rk_none S h e (Tn s + 1) ⟨kd, hk, fun b hb => ?_⟩
  have hb' := beh_in S h hk hb
  cases q : rk s b with
  | none => exact absurd ⟨b, hb, q⟩ n
  | some r =>
    obtain ⟨q1, q2, q3, _⟩ := rk_some S hb' q
    exact Fai_mono s q2 q3
end
/-- the last rank behind is less than r -/
def lessO (r : Nat) (o : Option Nat) : Bool := match o with | some x => decide (x < r) | none => false
noncomputable def goodK (s : Shop) (c : List Nat) (r : Nat) (kd : List Nat × Nat) : Bool := (beh s c kd).all fun b => lessO r (rk s b)
section
variable {s : Shop} (S : Sh s)
include S
theorem good_iff {c : List Nat} (h : leV c s.caps = true) {r : Nat} {kd : List Nat × Nat} (hk : kd ∈ s.ks) (hr : 0 < r) : goodK s c r kd = true ↔ ∀ b ∈ beh s c kd, Fai s (r - 1) b := by
  unfold goodK
  rw [List.all_eq_true]
  refine forall_congr' fun b => forall_congr' fun hb => ?_
  rw [rk_le S (beh_in S h hk hb)]
  constructor
  · intro e
    cases q : rk s b with
    | none => rw [q] at e; cases e
    | some x =>
      rw [q] at e
      have : x < r := of_decide_eq_true e
      exact ⟨x, rfl, by omega⟩
  · rintro ⟨x, e, hx⟩
    rw [e]
    exact decide_eq_true (by omega)
theorem good_ex {c : List Nat} (h : leV c s.caps = true) {r : Nat} (e : rk s c = some r) : ∃ kd ∈ s.ks, goodK s c r kd = true := by
  obtain ⟨q1, q2, q3, q4⟩ := rk_some S h e
  obtain ⟨r, rfl⟩ : ∃ k, r = k + 1 := ⟨r - 1, by omega⟩
  obtain ⟨kd, h1, h2⟩ := q3
  exact ⟨kd, h1, (good_iff S h h1 q1).mpr h2⟩
theorem good_one {c : List Nat} (h : leV c s.caps = true) {r : Nat} (e : rk s c = some r) {kd : List Nat × Nat} (hk : kd ∈ s.ks) (g : goodK s c r kd = true) : r = 1 ↔ beh s c kd = [] := by
  obtain ⟨q1, q2, q3, q4⟩ := rk_some S h e
  have g' := (good_iff S h hk q1).mp g
  constructor
  · rintro rfl
    exact List.eq_nil_iff_forall_not_mem.mpr fun b hb => g' b hb
  · intro z
    refine Decidable.byContradiction fun n => q4 ?_
    obtain ⟨r, rfl⟩ : ∃ k, r = k + 2 := ⟨r - 2, by omega⟩
    exact ⟨kd, hk, fun b hb => by rw [z] at hb; cases hb⟩
theorem good_max {c : List Nat} (h : leV c s.caps = true) {r : Nat} (e : rk s c = some r) {kd : List Nat × Nat} (hk : kd ∈ s.ks) (g : goodK s c r kd = true) (h1 : 1 < r) : ∃ b ∈ beh s c kd, rk s b = some (r - 1) := by
  obtain ⟨q1, q2, q3, q4⟩ := rk_some S h e
  have g' := (good_iff S h hk q1).mp g
  refine Decidable.byContradiction fun n => q4 ?_
  obtain ⟨r, rfl⟩ : ∃ k, r = k + 2 := ⟨r - 2, by omega⟩
  refine ⟨kd, hk, fun b hb => ?_⟩
  have hb' := beh_in S h hk hb
  obtain ⟨x, e1, hx⟩ := (rk_le S hb').mp (g' b hb)
  refine (rk_le S hb').mpr ⟨x, e1, ?_⟩
  refine Decidable.byContradiction fun z => n ⟨b, hb, ?_⟩
  rw [e1]; congr 1; omega
end
/-! ### rooms -/
noncomputable def roomG (s : Shop) (good : List (List Nat)) (r : List Nat) : List (List Nat) := if (!(good.any fun o => leV o r) && (rk ⟨s.vs, r, s.ks⟩ r).isNone) = true then good ++ [r] else good
noncomputable def rooms (s : Shop) : List (List Nat) := (conts s.caps).foldl (roomG s) []
theorem rooms_in (s : Shop) : ∀ (l good : List (List Nat)) (r : List Nat), r ∈ l.foldl (roomG s) good → r ∈ good ∨ (r ∈ l ∧ (rk ⟨s.vs, r, s.ks⟩ r).isNone = true)
  | [], good, r, h => .inl h
  | x :: l, good, r, h => by
    rcases rooms_in s l _ r h with q | ⟨q1, q2⟩
    · unfold roomG at q
      split at q
      · rename_i hz
        rcases List.mem_append.mp q with q | q
        · exact .inl q
        · rw [List.mem_singleton] at q
          subst q
          simp only [Bool.and_eq_true] at hz
          exact .inr ⟨List.mem_cons_self .., hz.2⟩
      · exact .inl q
    · exact .inr ⟨List.mem_cons_of_mem _ q1, q2⟩
theorem rooms_keep (s : Shop) : ∀ (l good : List (List Nat)), good ≠ [] → l.foldl (roomG s) good ≠ []
  | [], good, h => h
  | x :: l, good, h => rooms_keep s l _ (by unfold roomG; split <;> simp [h])
theorem rooms_some (s : Shop) {c : List Nat} (e : (rk ⟨s.vs, c, s.ks⟩ c).isNone = true) : ∀ (l good : List (List Nat)), c ∈ l → l.foldl (roomG s) good ≠ []
  | x :: l, good, h => by
    rcases List.mem_cons.mp h with rfl | h
    · refine rooms_keep s l _ ?_
      unfold roomG
      cases hg : good.any fun o => leV o c with
      | false => rw [e]; simp
      | true =>
        obtain ⟨o, ho, _⟩ := List.any_eq_true.mp hg
        simp only [Bool.not_true, Bool.false_and, Bool.false_eq_true, if_false]
        exact List.ne_nil_of_mem ho
    · exact rooms_some s e l _ h
theorem least_ne {l : List (List Nat)} (h : l ≠ []) : leastV l ≠ [] := by
  obtain ⟨x, hx⟩ := List.exists_mem_of_ne_nil _ h
  obtain ⟨m, g1, g2, g3⟩ := min_below l _ x (Nat.le_refl _) hx
  exact List.ne_nil_of_mem (mem_leastV.mpr ⟨g1, g3⟩)
section
variable {s : Shop} (S : Sh s)
include S
theorem floats_caps : (rk s s.caps).isNone = decide (0 < (leastV ((conts s.caps).filter fun c => (rk s c).isNone)).length) := by
  rw [Bool.eq_iff_iff, decide_eq_true_eq, List.length_pos_iff]
  constructor
  · intro e
    exact least_ne (List.ne_nil_of_mem (List.mem_filter.mpr ⟨mem_conts.mpr (leV_refl _), e⟩))
  · intro h
    obtain ⟨f, hf⟩ := List.exists_mem_of_ne_nil _ h
    obtain ⟨a, b⟩ := List.mem_filter.mp (mem_leastV.mp hf).1
    have hf := (rk_isNone S (mem_conts.mp a)).mp b
    exact (rk_isNone S (leV_refl _)).mpr fun t q => hf t (Fai_leS S (mem_conts.mp a) (leV_refl _) q)
theorem rooms_le {r : List Nat} (h : r ∈ rooms s) : leV r s.caps = true := by
  rcases rooms_in s _ _ r h with q | ⟨q, _⟩
  · cases q
  · exact mem_conts.mp q
theorem rooms_caps : (rk s s.caps).isNone = (leastV (rooms s)).any fun r => leV r s.caps := by
  rw [Bool.eq_iff_iff, List.any_eq_true]
  constructor
  · intro e
    obtain ⟨m, hm⟩ := List.exists_mem_of_ne_nil _ (least_ne (rooms_some s (c := s.caps) e (conts s.caps) [] (mem_conts.mpr (leV_refl _))))
    exact ⟨m, hm, rooms_le S (mem_leastV.mp hm).1⟩
  · rintro ⟨r, h1, h2⟩
    rcases rooms_in s _ _ r (mem_leastV.mp h1).1 with q | ⟨q, e⟩
    · cases q
    · have hr := Sh_room S h2
      have hn := (rk_isNone hr (c := r) (leV_refl _)).mp e
      exact (rk_isNone S (leV_refl _)).mpr fun t f => hn t (Fai_less (vs := s.vs) (caps := r) (cap2 := s.caps) (ks := s.ks) (fun k hk => (S.kd k hk).1) h2 S.nc t r s.caps S.nc h2 f)
end
end Rx
end

section
set_option Elab.async false
set_option linter.all false
set_option maxRecDepth 100000
set_option maxHeartbeats 1000000
set_option autoImplicit false
/-! L73c: tills as data; runs of is_at_least, sum_of, due_of, with_given, changes, behind, serve. -/
namespace Rx
abbrev dT (c : List Nat) : D := .tup (dV c)
abbrev dKd (k : List Nat × Nat) : D := .tup [dT k.1, .int k.2]
abbrev dSh (s : Shop) : D := .tup [dT s.vs, dT s.caps, .tup (s.ks.map dKd)]
theorem b_two {i j : Nat} {a b : D} {env : Env} : bind (.tup [.name i, .name j]) (.tup [a, b]) env = some ((env.set i (.val a)).set j (.val b)) := by simp
theorem b_three {i j k : Nat} {a b c : D} {env : Env} : bind (.tup [.name i, .name j, .name k]) (.tup [a, b, c]) env = some (((env.set i (.val a)).set j (.val b)).set k (.val c)) := by simp
theorem walk_z2 (x y : List Nat) : walk .zip2 [dT x, dT y] = some ((x.zip y).map fun p => .tup [.int p.1, .int p.2]) := by
  show some (((dV x).zip (dV y)).map fun p => D.tup [p.1, p.2]) = _
  unfold dV
  rw [List.zip_map, List.map_map]; rfl
theorem walk_z3 (x y z : List Nat) : walk .zip3 [dT x, dT y, dT z] = some ((x.zip (y.zip z)).map fun p => .tup [.int p.1, .int p.2.1, .int p.2.2]) := by
  show some (((dV x).zip ((dV y).zip (dV z))).map fun p => D.tup [p.1, p.2.1, p.2.2]) = _
  unfold dV
  rw [List.zip_map, List.zip_map, List.map_map]; rfl
theorem ints_N (v : List Nat) : D.ints (dV v) = some (v.map fun (k : Nat) => (k : Int)) := by
  induction v with
  | nil => rfl
  | cons x v ih => show (D.ints (dV v)).map ((x : Int) :: ·) = _; rw [ih]; rfl
theorem sum_N : ∀ v : List Nat, (v.map fun (k : Nat) => (k : Int)).sum = ((v.sum : Nat) : Int)
  | [] => rfl
  | x :: v => by rw [List.map_cons, List.sum_cons, List.sum_cons, sum_N v]; simp
theorem sum_dL (v : List Nat) : opU .sum (.lst (dV v)) = some (.int (v.sum : Nat)) := by
  show (D.ints (dV v)).map _ = _
  rw [ints_N]
  show some (D.int _) = _
  rw [sum_N]
theorem map_dV {α : Type} (l : List α) (f : α → Nat) : (l.map fun a => D.int ((f a : Nat) : Int)) = dV (l.map f) := by unfold dV; rw [List.map_map]; rfl
theorem key_dT (c : List Nat) : isKey true (dT c) = true := by
  show (true && (D.ints (dV c)).isSome) = true
  rw [ints_N]; rfl
theorem eqb_dV : ∀ x y : List Nat, D.eqbL (dV x) (dV y) = decide (x = y)
  | [], [] => rfl
  | [], _ :: _ => rfl
  | _ :: _, [] => rfl
  | a :: x, b :: y => by
    show (decide ((a : Int) = (b : Int)) && D.eqbL (dV x) (dV y)) = _
    rw [eqb_dV x y, deq_nat]
    by_cases q : a = b
    · subst q; simp
    · rw [decide_eq_false q, decide_eq_false (show ¬ (a :: x = b :: y) from fun z => q (List.cons.inj z).1)]; rfl
theorem eqb_dT (x y : List Nat) : D.eqb (dT x) (dT y) = decide (x = y) := eqb_dV x y
theorem plain_dV : ∀ x : List Nat, D.plainL (dV x) = true
  | [] => rfl
  | a :: x => plain_dV x
theorem depth_dV : ∀ x : List Nat, D.depthL (dV x) = 0
  | [] => rfl
  | a :: x => by show max 0 (D.depthL (dV x)) = 0; rw [depth_dV x]; rfl
theorem ne_dT (x y : List Nat) : opC .ne (dT x) (dT y) = some (!decide (x = y)) := by
  show (if (D.plainL (dV x) && D.plainL (dV y) && decide (D.depthL (dV x) + 1 < 60) && decide (D.depthL (dV y) + 1 < 60)) = true then some (!D.eqb (dT x) (dT y)) else none) = _
  rw [plain_dV, plain_dV, depth_dV, depth_dV, eqb_dT]; rfl
/-! ### runs -/
section
theorem r68 (c : Nat) {x y : List Nat} (h : x.length = y.length) (hl : x.length ≤ 1000) : run defs (c + 1) 68 [dT x, dT y] = some (.bl (leV y x)) := by
  refine run_of (fn := f_is_at_least) rfl rfl rfl ?_
  generalize run defs c = G
  generalize runI defs c = GI
  show retD (exs G GI [.val (dT x), .val (dT y), .unk, .unk] [.ret _]) = _
  have hc := ev_compM (G := G) (env := [.val (dT x), .val (dT y), .unk, .unk]) (e := .cmp .ge (.var 2) (.var 3)) (t := .tup [.name 2, .name 3]) (k := .zip2) (es := [.var 0, .var 1]) (own := [2, 3]) (vs := [dT x, dT y]) (x.zip y) (fun p => .tup [.int p.1, .int p.2]) (fun p => .bl (decide (p.2 ≤ p.1))) (by simp) (walk_z2 x y) (line_pos (by simp; omega)) fun p hp => ⟨_, b_two, by rw [se_cmp]; simp⟩
  rw [exs_ret (ev_b1c hc (all_bl _ _)), leV_zip h]; rfl
theorem r69 (c : Nat) {vs q : List Nat} (hv : ∀ v ∈ vs, v ≤ 10) (hl : vs.length ≤ 1000) : run defs (c + 1) 69 [dT vs, dT q] = some (.int (dt vs q : Nat)) := by
  refine run_of (fn := f_sum_of) rfl rfl rfl ?_
  generalize run defs c = G
  generalize runI defs c = GI
  show retD (exs G GI [.val (dT vs), .val (dT q), .unk, .unk] [.ret _]) = _
  have hc := ev_compM (G := G) (env := [.val (dT vs), .val (dT q), .unk, .unk]) (e := .bin .mul (.var 2) (.var 3)) (t := .tup [.name 2, .name 3]) (k := .zip2) (es := [.var 0, .var 1]) (own := [2, 3]) (vs := [dT vs, dT q]) (vs.zip q) (fun p => .tup [.int p.1, .int p.2]) (fun p => .int ((p.1 * p.2 : Nat) : Int)) (by simp) (walk_z2 vs q) (line_pos (by simp; omega)) fun p hp => ⟨_, b_two, by
    have := hv p.1 (List.of_mem_zip hp).1
    exact ev_bin_of (x := .int p.1) (y := .int p.2) (by simp) (by simp) (ev_pure_mul (by omega))⟩
  rw [map_dV (vs.zip q) fun p => p.1 * p.2] at hc
  rw [exs_ret (ev_b1c hc (sum_dL _))]; rfl
variable {s : Shop} (S : Sh s)
theorem at_kd {k : Nat} {kd : List Nat × Nat} (h : s.ks[k]? = some kd) : atI (s.ks.map dKd) (k : Int) = some (dKd kd) := atI_nat (by rw [List.getElem?_map, h]; rfl)
theorem ev_vs {G : Nat → List D → Option D} {env : Env} (h : env.bor 0 = some (dSh s)) : ev G env (.sub (.var 0) (.int 0)) = some (dT s.vs) := by
  rw [se_sub, bo_var, h, Option.bind_some, se_int, Option.bind_some]; rfl
theorem ev_caps {G : Nat → List D → Option D} {env : Env} (h : env.bor 0 = some (dSh s)) : ev G env (.sub (.var 0) (.int 1)) = some (dT s.caps) := by
  rw [se_sub, bo_var, h, Option.bind_some, se_int, Option.bind_some]; rfl
theorem ev_ks {G : Nat → List D → Option D} {env : Env} (h : env.bor 0 = some (dSh s)) : ev G env (.sub (.var 0) (.int 2)) = some (.tup (s.ks.map dKd)) := by
  rw [se_sub, bo_var, h, Option.bind_some, se_int, Option.bind_some]; rfl
theorem ev_nk {G : Nat → List D → Option D} {env : Env} (h : env.bor 0 = some (dSh s)) : ev G env (.b1 .len (.sub (.var 0) (.int 2))) = some (.int (s.ks.length : Nat)) := by
  rw [se_b1, bo_sub, ev_ks h, Option.bind_some, opU_lenT, List.length_map]
include S
theorem r70 (c : Nat) {k : Nat} {kd : List Nat × Nat} (h : s.ks[k]? = some kd) : run defs (c + 2) 70 [dSh s, .int k] = some (.int (dueS s kd : Nat)) := by
  refine run_of (fn := f_due_of) rfl rfl rfl ?_
  have h1 := r69 c (vs := s.vs) (q := kd.1) S.v10 (by have := S.nv; omega)
  have hk := (S.kd kd (List.mem_of_getElem? h)).2.2
  generalize run defs (c + 1) = G at h1 ⊢
  generalize runI defs (c + 1) = GI
  show retD (exs G GI [.val (dSh s), .val (.int k), .unk, .unk, .unk, .unk, .unk] (.asgT _ _ :: .asgT _ _ :: [.ret _])) = _
  rw [exs_asgT (d := dSh s) (by simp) b_three]
  simp only [List.set_cons_succ, List.set_cons_zero]
  rw [exs_asgT (d := dKd kd) (by simp [at_kd h]) b_two]
  simp only [List.set_cons_succ, List.set_cons_zero]
  rw [exs_ret (ev_bin_of (x := .int (dt s.vs kd.1 : Nat)) (y := .int (kd.2 : Nat)) (by rw [bo_call]; exact ev_call (ds := [dT s.vs, dT kd.1]) (by simp) h1) (by simp) (opB_subN hk))]
  rfl
theorem ev_given {G : Nat → List D → Option D} {env : Env} {k : Nat} {kd : List Nat × Nat} (h : s.ks[k]? = some kd) (h0 : env.bor 0 = some (dSh s)) (h2 : env.val 2 = some (.int k)) : ev G env (.sub (.sub (.sub (.var 0) (.int 2)) (.var 2)) (.int 0)) = some (dT kd.1) := by
  rw [se_sub, bo_sub, se_sub, bo_sub, ev_ks h0, Option.bind_some, se_var, h2, Option.bind_some, opSub_tup, at_kd h, Option.bind_some, se_int, Option.bind_some]; rfl
theorem r71 (c : Nat) {k : Nat} {kd : List Nat × Nat} (h : s.ks[k]? = some kd) {x : List Nat} (hx : x.length ≤ 3) : run defs (c + 1) 71 [dSh s, dT x, .int k] = some (dT (wg x kd.1)) := by
  refine run_of (fn := f_with_given) rfl rfl rfl ?_
  generalize run defs c = G
  generalize runI defs c = GI
  show retD (exs G GI [.val (dSh s), .val (dT x), .val (.int k), .unk, .unk] [.ret _]) = _
  have hc := ev_compM (G := G) (env := [.val (dSh s), .val (dT x), .val (.int k), .unk, .unk]) (e := .bin .add (.var 3) (.var 4)) (t := .tup [.name 3, .name 4]) (k := .zip2) (es := [.var 1, .sub (.sub (.sub (.var 0) (.int 2)) (.var 2)) (.int 0)]) (own := [3, 4]) (vs := [dT x, dT kd.1]) (x.zip kd.1) (fun p => .tup [.int p.1, .int p.2]) (fun p => .int ((p.1 + p.2 : Nat) : Int)) (by
    rw [sb_cons, sb_cons, bo_sub, ev_given S h rfl rfl]; simp) (walk_z2 x kd.1) (line_pos (by simp; omega)) fun p hp => ⟨_, b_two, ev_bin_of (x := .int p.1) (y := .int p.2) (by simp) (by simp) opB_addN⟩
  rw [map_dV (x.zip kd.1) fun p => p.1 + p.2] at hc
  rw [exs_ret (ev_b1c hc opU_tupL)]; rfl
end
end Rx
end

section
set_option Elab.async false
set_option linter.all false
set_option maxRecDepth 100000
set_option maxHeartbeats 1000000
set_option autoImplicit false
/-! L73d: runs of changes, behind, serve, contents_of. -/
namespace Rx
theorem opB_addV {x y : List Nat} (h : x.length + y.length ≤ 16777216) : opB .add (dT x) (dT y) = some (dT (x ++ y)) := by
  show (if (dV x).length + (dV y).length ≤ line then some (D.tup (dV x ++ dV y)) else none) = _
  rw [if_pos (line_pos (by rw [dV_len, dV_len]; exact h))]
  show some (D.tup (dV x ++ dV y)) = some (D.tup (dV (x ++ y)))
  unfold dV
  rw [List.map_append]
theorem ev_addone {G : Nat → List D → Option D} {env : Env} {i j : Nat} {x : List Nat} {t : Nat} (h1 : env.bor i = some (dT x)) (h2 : env.val j = some (.int t)) (hl : x.length ≤ 1000) : ev G env (.bin .add (.var i) (.tup [.var j])) = some (dT (x ++ [t])) :=
  ev_bin_of (x := dT x) (y := dT [t]) (by rw [bo_var, h1]) (by rw [bo_tup]; exact ev_tup (xs := [.int t]) (by rw [se_cons, se_var, h2, se_nil]; rfl) (line_pos (by simp))) (opB_addV (by simp; omega))
theorem ev_comp2M {G : Nat → List D → Option D} {env : Env} {α β : Type} {e : E} {t t2 : T} {k k2 : IK} {es es2 : List E} {own own2 : List Nat} {vs : List D} (l : List α) (r : α → D) (m : α → List β) (r2 g : α → β → D) (h : evB G env es = some vs) (hw : walk k vs = some (l.map r))
    (hl : (l.flatMap m).length ≤ line)
    (hg : ∀ a ∈ l, ∃ env' ws, bind t (r a) (env.kill own) = some env' ∧ evB G env' es2 = some ws ∧ walk k2 ws = some ((m a).map (r2 a)) ∧
      ∀ b ∈ m a, ∃ env2, bind t2 (r2 a b) (env'.kill own2) = some env2 ∧ ev G env2 e = some (g a b)) :
    ev G env (.comp2 e t k es [] t2 k2 es2 [] own own2) = some (.lst (l.flatMap fun a => (m a).map (g a))) := by
  unfold ev
  rw [h]
  show (walk k vs).bind _ = _
  rw [hw]
  show (compLL _ (l.map r)).bind fits = _
  rw [compLL_fa r (fun a => (m a).map (g a)) fun x hx => by
    obtain ⟨env', ws, h1, h2, h3, h4⟩ := hg x hx
    rw [h1]
    simp only [Option.bind_some, tsL, if_true, h2, h3]
    rw [compL_fa (r2 x) (fun b => some (g x b)) fun b hb => by
      obtain ⟨env2, q1, q2⟩ := h4 b hb
      rw [q1]
      simp [q2]]
    rw [List.filterMap_eq_map']]
  rw [Option.bind_some]
  refine fits_of ?_
  have : (l.flatMap fun a => (m a).map (g a)).length = (l.flatMap m).length := by
    simp [List.length_flatMap]
  rw [this]; exact hl
/-- rows of what is paid -/
abbrev dR (r : List Nat × Nat) : D := .tup [dT r.1, .int r.2]
theorem chG_len1 {due : Nat} {rows : List (List Nat × Nat)} {vk : Nat × Nat} {j : Nat} (h : ∀ r ∈ rows, r.1.length = j) : ∀ r ∈ chG due rows vk, r.1.length = j + 1 := fun r hr => by
  obtain ⟨r0, h2, h3⟩ := List.mem_flatMap.mp hr
  obtain ⟨t, h4, h5⟩ := List.mem_map.mp h3
  rw [← h5]
  simp [h r0 h2]
theorem leV_memz {x y : List Nat} (h : leV x y = true) : ∀ p ∈ y.zip x, p.2 ≤ p.1 := fun p hp => by
  have h1 := leV_zip (x := y) (y := x) (leV_len h).symm
  rw [h] at h1
  exact of_decide_eq_true (List.all_eq_true.mp h1 p hp)
theorem leV_memz2 : ∀ {x y : List Nat}, leV x y = true → ∀ p ∈ x.zip y, p.1 ≤ p.2
  | [], _, _, p, hp => by simp at hp
  | a :: x, b :: y, h, p, hp => by
    simp only [leV, Bool.and_eq_true, decide_eq_true_eq] at h
    rcases List.mem_cons.mp hp with rfl | hp
    · exact h.1
    · exact leV_memz2 h.2 p hp
  | _ :: _, [], h, _, _ => by simp [leV] at h
section
variable {s : Shop} (S : Sh s)
include S
theorem wg_le {x : List Nat} (hx : leV x s.caps = true) {kd : List Nat × Nat} (hk : kd ∈ s.ks) : ∀ t ∈ wg x kd.1, t ≤ 5 := fun t ht => by
  obtain ⟨p, hp, rfl⟩ := List.mem_map.mp ht
  obtain ⟨h1, h2⟩ := List.of_mem_zip hp
  have := leV_bd hx S.c3 p.1 h1
  have := (S.kd kd hk).2.1 p.2 h2
  omega
theorem wg_n {x : List Nat} (hx : leV x s.caps = true) {kd : List Nat × Nat} (hk : kd ∈ s.ks) : (wg x kd.1).length = s.vs.length := by
  have := Sh_len S hx
  have := (S.kd kd hk).1
  rw [wg_len (by omega)]; omega
theorem r72 (c : Nat) {k : Nat} {kd : List Nat × Nat} (h : s.ks[k]? = some kd) {x : List Nat} (hx : leV x s.caps = true) : run defs (c + 3) 72 [dSh s, dT x, .int k] = some (.tup ((chsS s x kd).map dT)) := by
  refine run_of (fn := f_changes) rfl rfl rfl ?_
  have hn := Sh_len S hx
  have hnv := S.nv
  have hm := List.mem_of_getElem? h
  have h1 := r71 S (c + 1) h (x := x) (by omega)
  have h2 := r70 S c h
  generalize run defs (c + 2) = G at h1 h2 ⊢
  generalize runI defs (c + 2) = GI
  show retD (exs G GI [.val (dSh s), .val (dT x), .val (.int k), .unk, .unk, .unk, .unk, .unk, .unk, .unk, .unk] (.asg 3 _ :: .asg 4 _ :: .asg 5 _ :: .for_ _ _ _ _ _ :: [.ret _])) = _
  rw [exs_asg (ev_call (ds := [dSh s, dT x, .int k]) (by simp) h1)]
  simp only [List.set_cons_succ, List.set_cons_zero]
  rw [exs_asg (d := .lst (([([], 0)] : List (List Nat × Nat)).map dR)) (ev_lst (by rw [se_cons, ev_tup (xs := [dT [], .int (0 : Nat)]) (by rw [se_cons, ev_tup (xs := []) se_nil (line_pos (by simp))]; simp [dV]) (line_pos (by simp)), se_nil]; rfl) (line_pos (by simp)))]
  simp only [List.set_cons_succ, List.set_cons_zero]
  rw [exs_asg (ev_call (ds := [dSh s, .int k]) (by simp) h2)]
  simp only [List.set_cons_succ, List.set_cons_zero]
  have hlen := wg_n S hx hm
  have hle := wg_le S hx hm
  unfold chsS chs
  generalize hth : wg x kd.1 = th at *
  generalize hdu : dueS s kd = due at *
  have hloop := forL_foldA (kl := [6, 7]) (step := fun d e => (bind (.tup [(.name 6), (.name 7)]) d e).bind fun e' => exs G GI e' [.asg 4 (.comp2 (.tup [(.bin .add (.var 8) (.tup [(.var 10)])), (.bin .add (.var 9) (.bin .mul (.var 10) (.var 6)))]) (.tup [(.name 8), (.name 9)]) .seq [(.var 4)] [] (.name 10) .r1 [(.bin .add (.var 7) (.int 1))] [(.val (.cmp .le (.bin .add (.var 9) (.bin .mul (.var 10) (.var 6))) (.var 5)))] [8, 9, 10] [10])])
    (fun (p : Nat × Nat) => .tup [.int p.1, .int p.2]) (fun (rows : List (List Nat × Nat)) => [.val (dSh s), .val (dT x), .val (.int k), .val (dT th), .val (.lst (rows.map dR)), .val (.int due), .unk, .unk, .unk, .unk, .unk]) (chG due) (fun j rows => rows.length ≤ 6 ^ j ∧ ∀ r ∈ rows, r.1.length = j) (s.vs.zip th) 0 [([], 0)] ⟨by simp, by simp⟩ (fun _ => rfl) (fun j vk rows hj hp => by
      rw [Nat.zero_add] at hp ⊢
      have hjl := (List.getElem?_eq_some_iff.mp hj).1
      have hmz := List.of_mem_zip (List.mem_of_getElem? hj)
      have hv := S.v10 vk.1 hmz.1
      have hk5 := hle vk.2 hmz.2
      have hjl3 : j < 3 := by rw [List.length_zip] at hjl; omega
      have hp6 : 6 ^ j ≤ 6 ^ 2 := Nat.pow_le_pow_right (by omega) (by omega)
      have hG := len_chG due rows vk hk5
      have hGl : (chG due rows vk).length ≤ 6 ^ (j + 1) := by rw [Nat.pow_succ]; exact Nat.le_trans hG (Nat.mul_le_mul_right _ hp.1)
      refine ⟨⟨hGl, chG_len1 hp.2⟩, [.val (dSh s), .val (dT x), .val (.int k), .val (dT th), .val (.lst ((chG due rows vk).map dR)), .val (.int due), .val (.int vk.1), .val (.int vk.2), .unk, .unk, .unk], ?_, ?_⟩
      · rw [b_two, Option.bind_some]
        simp only [List.set_cons_succ, List.set_cons_zero]
        have hc := ev_comp2A (G := G) (env := [.val (dSh s), .val (dT x), .val (.int k), .val (dT th), .val (.lst (rows.map dR)), .val (.int due), .val (.int vk.1), .val (.int vk.2), .unk, .unk, .unk]) (e := .tup [(.bin .add (.var 8) (.tup [(.var 10)])), (.bin .add (.var 9) (.bin .mul (.var 10) (.var 6)))]) (t := .tup [(.name 8), (.name 9)]) (t2 := .name 10) (k := .seq) (k2 := .r1) (es := [(.var 4)]) (es2 := [(.bin .add (.var 7) (.int 1))]) (c2 := .val (.cmp .le (.bin .add (.var 9) (.bin .mul (.var 10) (.var 6))) (.var 5))) (own := [8, 9, 10]) (own2 := [10]) (vs := [.lst (rows.map dR)])
          rows dR (fun _ => List.range (vk.2 + 1)) (fun _ t => .int t) (fun r t => dR (r.1 ++ [t], r.2 + t * vk.1)) (fun r t => decide (r.2 + t * vk.1 ≤ due)) (by simp) rfl (line_pos (by
            have e1 : (rows.flatMap fun a => (List.range (vk.2 + 1)).filter fun t => decide (a.2 + t * vk.1 ≤ due)).length = (chG due rows vk).length := by unfold chG; simp [List.length_flatMap]
            rw [e1]; omega)) fun r hr => ⟨_, [.int ((vk.2 + 1 : Nat) : Int)], b_two, by
              rw [sb_cons, bo_bin, ev_bin_of (x := .int vk.2) (y := .int (1 : Nat)) (by simp) (by simp) opB_addN, sb_nil]; rfl, walk_r1m (by omega), fun t ht => by
              have e9 : ∀ (c9 : Cell), ev G [.val (dSh s), .val (dT x), .val (.int k), .val (dT th), .val (.lst (rows.map dR)), .val (.int due), .val (.int vk.1), .val (.int vk.2), c9, .val (.int r.2), .val (.int t)] (.bin .add (.var 9) (.bin .mul (.var 10) (.var 6))) = some (.int ((r.2 + t * vk.1 : Nat) : Int)) := fun c9 => by
                have := List.mem_range.mp ht
                exact ev_bin_of (x := .int r.2) (y := .int ((t * vk.1 : Nat) : Int)) (by simp) (by rw [bo_bin]; exact ev_bin_of (x := .int t) (y := .int vk.1) (by simp) (by simp) (ev_pure_mul (by omega))) opB_addN
              refine ⟨_, x_bindN, ?_, fun _ => ?_⟩
              · refine ts_val (x := .bl (decide (r.2 + t * vk.1 ≤ due))) ?_ rfl
                simp only [x_kill1, x_kill0, List.set_cons_succ, List.set_cons_zero]
                rw [bo_cmp, se_cmp, bo_bin, e9, Option.bind_some, bo_var]
                show (opC .le (.int ((r.2 + t * vk.1 : Nat) : Int)) (.int (due : Nat))).map D.bl = _
                rw [opC_le, dle_nat]; rfl
              · simp only [x_kill1, x_kill0, List.set_cons_succ, List.set_cons_zero]
                refine ev_tup (xs := [dT (r.1 ++ [t]), .int ((r.2 + t * vk.1 : Nat) : Int)]) ?_ (line_pos (by simp))
                rw [se_cons, ev_addone (x := r.1) (t := t) (by simp) (by simp) (by have := hp.2 r hr; omega), se_cons, e9, se_nil]; rfl⟩
        have e2 : (rows.flatMap fun a => ((List.range (vk.2 + 1)).filter fun t => decide (a.2 + t * vk.1 ≤ due)).map fun t => dR (a.1 ++ [t], a.2 + t * vk.1)) = (chG due rows vk).map dR := by
          unfold chG
          rw [List.map_flatMap]
          simp only [List.map_map]
          rfl
        rw [e2] at hc
        rw [exs_asg hc]; rfl
      · rfl)
  rw [exs_for (vs := [dT s.vs, dT th]) (by rw [se_cons, ev_vs rfl]; simp) (walk_z2 s.vs th) hloop.1]
  have hfin := hloop.2
  rw [Nat.zero_add] at hfin
  generalize (s.vs.zip th).foldl (chG due) [([], 0)] = rows at hfin ⊢
  have h216 : 6 ^ (s.vs.zip th).length ≤ 6 ^ 3 := Nat.pow_le_pow_right (by omega) (by rw [List.length_zip]; omega)
  have hc := ev_compA (G := G) (env := [.val (dSh s), .val (dT x), .val (.int k), .val (dT th), .val (.lst (rows.map dR)), .val (.int due), .unk, .unk, .unk, .unk, .unk]) (e := .var 8) (t := .tup [(.name 8), (.name 9)]) (k := .seq) (es := [(.var 4)]) (c := .val (.cmp .eq (.var 9) (.var 5))) (own := [8, 9]) (vs := [.lst (rows.map dR)]) rows dR (fun r => dT r.1) (fun r => decide (r.2 = due)) (by simp) rfl (line_pos (by omega)) fun r hr => ⟨_, b_two, ts_val (x := .bl (decide (r.2 = due))) (by
    rw [bo_cmp, se_cmp]
    simp only [x_kill1, x_kill0, List.set_cons_succ, List.set_cons_zero, bo_var]
    show (opC .eq (.int (r.2 : Nat)) (.int (due : Nat))).map D.bl = _
    rw [opC_eq, deq_nat]; rfl) rfl, fun _ => by simp⟩
  rw [exs_ret (ev_b1c hc opU_tupL), List.map_map]; rfl
theorem r73 (c : Nat) {k : Nat} {kd : List Nat × Nat} (h : s.ks[k]? = some kd) {x ch : List Nat} (hx : leV x s.caps = true) (hch : leV ch (wg x kd.1) = true) : run defs (c + 2) 73 [dSh s, dT x, .int k, dT ch] = some (dT (bh s.caps (wg x kd.1) ch)) := by
  refine run_of (fn := f_behind) rfl rfl rfl ?_
  have hn := Sh_len S hx
  have hnv := S.nv
  have hnc := S.nc
  have h1 := r71 S c h (x := x) (by omega)
  generalize run defs (c + 1) = G at h1 ⊢
  generalize runI defs (c + 1) = GI
  show retD (exs G GI [.val (dSh s), .val (dT x), .val (.int k), .val (dT ch), .unk, .unk, .unk, .unk] (.asg 4 _ :: [.ret _])) = _
  rw [exs_asg (ev_call (ds := [dSh s, dT x, .int k]) (by simp) h1)]
  simp only [List.set_cons_succ, List.set_cons_zero]
  generalize wg x kd.1 = th at *
  have hc := ev_compM (G := G) (env := [.val (dSh s), .val (dT x), .val (.int k), .val (dT ch), .val (dT th), .unk, .unk, .unk]) (e := .b2 .min (.var 5) (.bin .sub (.var 6) (.var 7))) (t := .tup [.name 5, .name 6, .name 7]) (k := .zip3) (es := [.sub (.var 0) (.int 1), .var 4, .var 3]) (own := [5, 6, 7]) (vs := [dT s.caps, dT th, dT ch]) (s.caps.zip (th.zip ch)) (fun p => .tup [.int p.1, .int p.2.1, .int p.2.2]) (fun p => .int ((min p.1 (p.2.1 - p.2.2) : Nat) : Int)) (by
    rw [sb_cons, bo_sub, ev_caps rfl]; simp) (walk_z3 _ _ _) (line_pos (by simp; omega)) fun p hp => ⟨_, b_three, by
      have := leV_memz hch p.2 (List.of_mem_zip hp).2
      rw [se_b2, ev_bin_of (x := .int p.2.1) (y := .int p.2.2) (by simp) (by simp) (opB_subN this)]
      simp
      omega⟩
  rw [map_dV (s.caps.zip (th.zip ch)) fun p => min p.1 (p.2.1 - p.2.2)] at hc
  rw [exs_ret (ev_b1c hc opU_tupL)]; rfl
theorem r74 (c : Nat) {k : Nat} {kd : List Nat × Nat} (h : s.ks[k]? = some kd) {x ch : List Nat} (hx : leV x s.caps = true) (hch : ch ∈ chsS s x kd) : run defs (c + 3) 74 [dSh s, dT x, .int k, dT ch] = some (dT (bh s.caps (wg x kd.1) ch)) := by
  refine run_of (fn := f_serve) rfl rfl rfl ?_
  have hn := Sh_len S hx
  have hnv := S.nv
  have hnc := S.nc
  have hm := List.mem_of_getElem? h
  have hw := wg_n S hx hm
  obtain ⟨g1, g2⟩ := (mem_chs (by omega)).mp hch
  have h1 := r71 S (c + 1) h (x := x) (by omega)
  have h2 := r69 (c + 1) (vs := s.vs) (q := ch) S.v10 (by omega)
  have h3 := r70 S c h
  have h4 := r73 S c h hx g1
  rw [g2] at h2
  generalize run defs (c + 2) = G at *
  generalize runI defs (c + 2) = GI
  show retD (exs G GI [.val (dSh s), .val (dT x), .val (.int k), .val (dT ch), .unk, .unk, .unk] (.asg 4 _ :: .ifs _ _ _ :: .ifs _ _ _ :: [.ret _])) = _
  rw [exs_asg (ev_call (ds := [dSh s, dT x, .int k]) (by simp) h1)]
  simp only [List.set_cons_succ, List.set_cons_zero]
  rw [exs_skip (ts_val (x := .bl false) (by
    rw [bo_cmp, se_cmp, bo_call, ev_call (ds := [dT s.vs, dT ch]) (by rw [se_cons, ev_vs rfl]; simp) h2, Option.bind_some, bo_call, ev_call (ds := [dSh s, .int k]) (by simp) h3, Option.bind_some, opC_ne]; simp) rfl)]
  have hc := ev_compM (G := G) (env := [.val (dSh s), .val (dT x), .val (.int k), .val (dT ch), .val (dT (wg x kd.1)), .unk, .unk]) (e := .cmp .gt (.var 5) (.var 6)) (t := .tup [.name 5, .name 6]) (k := .zip2) (es := [.var 3, .var 4]) (own := [5, 6]) (vs := [dT ch, dT (wg x kd.1)]) (ch.zip (wg x kd.1)) (fun p => .tup [.int p.1, .int p.2]) (fun p => .bl (decide (p.2 < p.1))) (by simp) (walk_z2 _ _) (line_pos (by simp; omega)) fun p hp => ⟨_, b_two, by rw [se_cmp]; simp⟩
  have hany : ((ch.zip (wg x kd.1)).any fun p => decide (p.2 < p.1)) = false := by
    rw [List.any_eq_false]
    intro p hp
    have := leV_memz2 g1 p hp
    simp
    omega
  rw [exs_skip (ts_val (x := .bl false) (by rw [bo_b1, ev_b1c hc (any_bl _ _), hany]) rfl)]
  rw [exs_ret (ev_call (ds := [dSh s, dT x, .int k, dT ch]) (by simp) h4)]; rfl
end
theorem r75 (c : Nat) {caps : List Nat} (h3 : ∀ k ∈ caps, k ≤ 3) (hl : caps.length ≤ 3) : run defs (c + 1) 75 [dT caps] = some (.lst ((conts caps).map dT)) := by
  refine run_of (fn := f_contents_of) rfl rfl rfl ?_
  generalize run defs c = G
  generalize runI defs c = GI
  show retD (exs G GI [.val (dT caps), .unk, .unk, .unk, .unk] (.asg 1 _ :: .for_ _ _ _ _ _ :: [.ret _])) = _
  rw [exs_asg (d := .lst (([[]] : List (List Nat)).map dT)) (ev_lst (by rw [se_cons, ev_tup (xs := []) se_nil (line_pos (by simp)), se_nil]; rfl) (line_pos (by simp)))]
  simp only [List.set_cons_succ, List.set_cons_zero]
  have hloop := forL_foldA (kl := [2]) (step := fun d e => (bind (.name 2) d e).bind fun e' => exs G GI e' [.asg 1 (.comp2 (.bin .add (.var 3) (.tup [(.var 4)])) (.name 3) .seq [(.var 1)] [] (.name 4) .r1 [(.bin .add (.var 2) (.int 1))] [] [3, 4] [4])])
    (fun (k : Nat) => .int k) (fun (rows : List (List Nat)) => [.val (dT caps), .val (.lst (rows.map dT)), .unk, .unk, .unk]) grow (fun j rows => rows.length ≤ 4 ^ j ∧ ∀ r ∈ rows, r.length = j) caps 0 [[]] ⟨by simp, by simp⟩ (fun _ => rfl) (fun j cap rows hj hp => by
      rw [Nat.zero_add] at hp ⊢
      have hjl := (List.getElem?_eq_some_iff.mp hj).1
      have hc3 := h3 cap (List.mem_of_getElem? hj)
      have hp4 : 4 ^ j ≤ 4 ^ 2 := Nat.pow_le_pow_right (by omega) (by omega)
      have hG := len_grow rows cap
      have hGl : (grow rows cap).length ≤ 4 ^ (j + 1) := by rw [hG, Nat.pow_succ]; exact Nat.mul_le_mul hp.1 (by omega)
      have hG16 : (grow rows cap).length ≤ 64 := Nat.le_trans hGl (Nat.le_trans (Nat.pow_le_pow_right (by omega) (show j + 1 ≤ 3 by omega)) (by decide))
      refine ⟨⟨hGl, fun r hr => ?_⟩, [.val (dT caps), .val (.lst ((grow rows cap).map dT)), .val (.int cap), .unk, .unk], ?_, rfl⟩
      · obtain ⟨r0, q1, q2⟩ := List.mem_flatMap.mp hr
        obtain ⟨t, _, q3⟩ := List.mem_map.mp q2
        rw [← q3]
        simp [hp.2 r0 q1]
      · rw [x_bindN, Option.bind_some]
        simp only [List.set_cons_succ, List.set_cons_zero]
        have hc := ev_comp2M (G := G) (env := [.val (dT caps), .val (.lst (rows.map dT)), .val (.int cap), .unk, .unk]) (e := .bin .add (.var 3) (.tup [(.var 4)])) (t := .name 3) (t2 := .name 4) (k := .seq) (k2 := .r1) (es := [.var 1]) (es2 := [(.bin .add (.var 2) (.int 1))]) (own := [3, 4]) (own2 := [4]) (vs := [.lst (rows.map dT)]) rows dT (fun _ => List.range (cap + 1)) (fun _ t => .int t) (fun r t => dT (r ++ [t])) (by simp) rfl (line_pos (by
            have e1 : (rows.flatMap fun _ => List.range (cap + 1)).length = (grow rows cap).length := by unfold grow; simp [List.length_flatMap]
            rw [e1]; omega)) fun r hr => ⟨_, [.int ((cap + 1 : Nat) : Int)], x_bindN, by
              rw [sb_cons, bo_bin, ev_bin_of (x := .int cap) (y := .int (1 : Nat)) (by simp) (by simp) opB_addN, sb_nil]; rfl, walk_r1m (by omega), fun t ht => ⟨_, x_bindN, ev_addone (x := r) (t := t) (by simp) (by simp) (by have := hp.2 r hr; omega)⟩⟩
        have e2 : (rows.flatMap fun a => (List.range (cap + 1)).map fun t => dT (a ++ [t])) = (grow rows cap).map dT := by
          unfold grow
          rw [List.map_flatMap]
          simp only [List.map_map]
          rfl
        rw [e2] at hc
        rw [exs_asg hc]; rfl)
  rw [exs_for (vs := [dT caps]) (by simp) rfl hloop.1]
  rw [exs_ret (d := .lst ((conts caps).map dT)) (by rw [se_var]; rfl)]; rfl
end Rx
end

section
set_option Elab.async false
set_option linter.all false
set_option maxRecDepth 100000
set_option maxHeartbeats 1000000
set_option autoImplicit false
/-! L73e: dicts of contents; runs of ways_of, ranks_of. -/
namespace Rx
theorem walk_rg0 {n : Nat} (h : n < 4611686018427387904) : walk .seq [.rng 0 (n : Nat)] = some ((List.range n).map fun (k : Nat) => D.int k) := by
  simp only [walk]
  rw [if_pos ⟨by omega, by omega, by omega, by omega⟩, Int.sub_zero, Int.toNat_natCast, rgD_nat]
theorem put_new {kvs : List (D × D)} {k v : D} (h : ∀ p ∈ kvs, D.eqb p.1 k = false) : D.put kvs k v = kvs ++ [(k, v)] := by
  unfold D.put
  rw [if_neg]
  rw [Bool.not_eq_true, List.any_eq_false]
  intro p hp
  rw [h p hp]; decide
theorem putAt_dT {kvs : List (D × D)} {c : List Nat} {v : D} (h : ∀ p ∈ kvs, D.eqb p.1 (dT c) = false) (hl : kvs.length < 16777216) : putAt (.dic true kvs) (dT c) v = some (.dic true (kvs ++ [(dT c, v)])) := by
  show (if isKey true (dT c) = true ∧ kvs.length < line then some (D.dic true (D.put kvs (dT c) v)) else none) = _
  rw [if_pos ⟨key_dT c, hl⟩, put_new h]
theorem get_map (f : List Nat → D) : ∀ (L : List (List Nat)) (c : List Nat), D.get (L.map fun c => (dT c, f c)) (dT c) = if c ∈ L then some (f c) else none
  | [], c => rfl
  | x :: L, c => by
    show ((((dT x, f x) :: (L.map fun c => (dT c, f c))).find? fun kv => D.eqb kv.1 (dT c)).map (·.2)) = _
    rw [List.find?_cons]
    show Option.map (fun kv : D × D => kv.2) (match D.eqb (dT x) (dT c) with | true => some (dT x, f x) | false => (L.map fun c => (dT c, f c)).find? fun kv => D.eqb kv.1 (dT c)) = _
    rw [eqb_dT]
    by_cases q : x = c
    · subst q
      rw [decide_eq_true rfl, if_pos (List.mem_cons_self ..)]; rfl
    · rw [decide_eq_false q]
      have ih := get_map f L c
      show D.get (L.map fun c => (dT c, f c)) (dT c) = _
      rw [ih]
      by_cases z : c ∈ L
      · rw [if_pos z, if_pos (List.mem_cons_of_mem _ z)]
      · rw [if_neg z, if_neg fun h => (List.mem_cons.mp h).elim (fun e => q e.symm) z]
abbrev rE (p : List Nat × Nat) : D × D := (dT p.1, .int p.2)
theorem get_rE : ∀ (L : List (List Nat × Nat)) (c : List Nat), D.get (L.map rE) (dT c) = (lkA L c).map fun r => .int (r : Nat)
  | [], c => rfl
  | x :: L, c => by
    show (((rE x :: L.map rE).find? fun kv => D.eqb kv.1 (dT c)).map (·.2)) = _
    rw [List.find?_cons]
    show Option.map (fun kv : D × D => kv.2) (match D.eqb (dT x.1) (dT c) with | true => some (rE x) | false => (L.map rE).find? fun kv => D.eqb kv.1 (dT c)) = _
    rw [eqb_dT]
    unfold lkA
    rw [List.find?_cons]
    by_cases q : x.1 = c
    · rw [decide_eq_true q]; rfl
    · rw [decide_eq_false q]
      exact get_rE L c
theorem lkA_isSome (L : List (List Nat × Nat)) (c : List Nat) : (lkA L c).isSome = (L.map (·.1)).contains c := by
  rw [Bool.eq_iff_iff]
  unfold lkA
  rw [Option.isSome_map, List.find?_isSome, List.contains_iff_mem, List.mem_map]
  constructor
  · rintro ⟨x, h1, h2⟩
    exact ⟨x, h1, of_decide_eq_true h2⟩
  · rintro ⟨x, h1, h2⟩
    exact ⟨x, h1, decide_eq_true h2⟩
theorem isIn_R (s : Shop) (t : Nat) (c : List Nat) : D.isIn (dT c) (.dic true ((As s t).map rE)) = some ((Lv s t).contains c) := by
  show (if isKey true (dT c) = true then some (D.get ((As s t).map rE) (dT c)).isSome else none) = _
  rw [if_pos (key_dT c), get_rE, Option.isSome_map, lkA_isSome, As_keys]
theorem not_take {α : Type} {l : List α} {j : Nat} {c : α} (hn : l.Nodup) (h : l[j]? = some c) : c ∉ l.take j := by
  rw [← List.take_append_drop j l, List.nodup_append] at hn
  intro hc
  have hl := (List.getElem?_eq_some_iff.mp h).1
  have hd : c ∈ l.drop j := by
    rw [List.mem_iff_getElem?]
    exact ⟨0, by rw [List.getElem?_drop, Nat.add_zero, h]⟩
  exact hn.2.2 c hc c hd rfl
theorem take_one {α : Type} {l : List α} {j : Nat} {c : α} (h : l[j]? = some c) : l.take (j + 1) = l.take j ++ [c] := by rw [List.take_add_one, h]; rfl
section
variable {s : Shop} (S : Sh s)
include S
theorem len_chsS {x : List Nat} (hx : leV x s.caps = true) {kd : List Nat × Nat} (hk : kd ∈ s.ks) : (chsS s x kd).length ≤ 216 := by
  have hle := wg_le S hx hk
  have hnv := S.nv
  have h1 := len_chF (dueS s kd) (s.vs.zip (wg x kd.1)) [([], 0)] fun p hp => hle p.2 (List.of_mem_zip hp).2
  have h216 : 6 ^ (s.vs.zip (wg x kd.1)).length ≤ 6 ^ 3 := Nat.pow_le_pow_right (by omega) (by rw [List.length_zip]; omega)
  have h2 := List.length_filter_le (fun r : List Nat × Nat => decide (r.2 = dueS s kd)) ((s.vs.zip (wg x kd.1)).foldl (chG (dueS s kd)) [([], 0)])
  unfold chsS chs
  rw [List.length_map]
  simp only [List.length_cons, List.length_nil] at h1
  omega
theorem len_beh {x : List Nat} (hx : leV x s.caps = true) {kd : List Nat × Nat} (hk : kd ∈ s.ks) : (beh s x kd).length ≤ 216 := by
  unfold beh
  rw [List.length_map]
  exact len_chsS S hx hk
theorem len_conts : (conts s.caps).length ≤ 64 := by
  have h1 := len_contF s.caps [[]] S.c3
  have h64 : 4 ^ s.caps.length ≤ 4 ^ 3 := Nat.pow_le_pow_right (by omega) (by have := S.nc; have := S.nv; omega)
  simp only [List.length_cons, List.length_nil] at h1
  unfold conts
  omega
/-- [behind(..) for change in changes(..)] -/
theorem ev_beh {c : Nat} {k : Nat} {kd : List Nat × Nat} (h : s.ks[k]? = some kd) {x : List Nat} (hx : leV x s.caps = true) {env : Env} {i1 i2 i3 : Nat} (h0 : env.val 0 = some (dSh s)) (h1 : env.val i1 = some (dT x)) (h2 : env.val i2 = some (.int k)) (n0 : i3 ≠ 0) (n1 : i3 ≠ i1) (n2 : i3 ≠ i2) (hi : i3 < env.length) :
    ev (run defs (c + 3)) env (.comp (.call 73 [(.var 0), (.var i1), (.var i2), (.var i3)]) (.name i3) .seq [(.call 72 [(.var 0), (.var i1), (.var i2)])] [] [i3]) = some (.lst ((beh s x kd).map dT)) := by
  have hm := List.mem_of_getElem? h
  have h72 := r72 S c h hx
  have hb : ∀ (k : Nat) (c c' : Cell), k ≠ i3 → Env.val ((env.set i3 c).set i3 c') k = env.val k := by
    intro k c c' hk
    unfold Env.val
    rw [List.getElem?_set_ne (by omega), List.getElem?_set_ne (by omega)]
  have hc := ev_compM (G := run defs (c + 3)) (env := env) (e := .call 73 [(.var 0), (.var i1), (.var i2), (.var i3)]) (t := .name i3) (k := .seq) (es := [(.call 72 [(.var 0), (.var i1), (.var i2)])]) (own := [i3]) (vs := [.tup ((chsS s x kd).map dT)]) (chsS s x kd) dT (fun ch => dT (bh s.caps (wg x kd.1) ch)) (by
    rw [sb_cons, bo_call, ev_call (ds := [dSh s, dT x, .int k]) (by rw [se_cons, se_var, h0, se_cons, se_var, h1, se_cons, se_var, h2, se_nil]; rfl) h72, sb_nil]; rfl) rfl (line_pos (by have := len_chsS S hx hm; omega)) fun ch hch => ⟨_, x_bindN, by
      have hn := Sh_len S hx
      have hw := wg_n S hx hm
      have hnc := S.nc
      obtain ⟨g1, g2⟩ := (mem_chs (by omega)).mp (show ch ∈ chs s.vs (wg x kd.1) _ from hch)
      refine ev_call (ds := [dSh s, dT x, .int k, dT ch]) ?_ (r73 S (c + 1) h hx g1)
      rw [x_kill1, x_kill0, se_cons, se_var, hb 0 _ _ n0.symm, h0, se_cons, se_var, hb i1 _ _ n1.symm, h1, se_cons, se_var, hb i2 _ _ n2.symm, h2, se_cons, se_var, se_nil]
      have : Env.val ((env.set i3 .unk).set i3 (.val (dT ch))) i3 = some (dT ch) := by
        unfold Env.val
        rw [List.getElem?_set_self (by simpa using hi)]
      rw [this]; rfl⟩
  rw [hc]
  unfold beh
  rw [List.map_map]; rfl
abbrev fW (s : Shop) (c : List Nat) : D := .lst (s.ks.map fun kd => .lst ((beh s c kd).map dT))
abbrev wE (s : Shop) (c : List Nat) : D × D := (dT c, fW s c)
abbrev dW (s : Shop) : D := .dic true ((conts s.caps).map (wE s))
theorem r76 (c : Nat) : run defs (c + 4) 76 [dSh s] = some (dW s) := by
  refine run_of (fn := f_ways_of) rfl rfl rfl ?_
  have hbeh := fun {k : Nat} {kd : List Nat × Nat} (h : s.ks[k]? = some kd) {x : List Nat} (hx : leV x s.caps = true) (env : Env) h0 h1 h2 hi => ev_beh S (c := c) h hx (env := env) (i1 := 3) (i2 := 5) (i3 := 6) h0 h1 h2 (by decide) (by decide) (by decide) hi
  have h75 := r75 (c + 2) (caps := s.caps) S.c3 (by have := S.nc; have := S.nv; omega)
  have hlc := len_conts S
  have hnk := S.nk
  generalize run defs (c + 3) = G at *
  generalize runI defs (c + 3) = GI
  show retD (exs G GI [.val (dSh s), .unk, .unk, .unk, .unk, .unk, .unk] (.asg 1 _ :: .asgO 2 _ :: .for_ _ _ _ _ _ :: .frz 2 :: [.ret _])) = _
  rw [exs_asg (ev_b1 (by rw [bo_b1]; exact ev_nk rfl) (show opU .rng (.int (s.ks.length : Nat)) = some (.rng 0 (s.ks.length : Nat)) from rfl))]
  simp only [List.set_cons_succ, List.set_cons_zero]
  rw [exs_asgO (d := .dic true (((conts s.caps).take 0).map (wE s))) (by rw [ev]; rfl) rfl]
  simp only [List.set_cons_succ, List.set_cons_zero]
  have hloop := forL_foldA (kl := [3, 4, 5]) (step := fun d e => (bind (.name 3) d e).bind fun e' => exs G GI e' [.asgO 4 (.lst []), .for_ (.name 5) .seq [(.var 1)] [.app 4 (.comp (.call 73 [(.var 0), (.var 3), (.var 5), (.var 6)]) (.name 6) .seq [(.call 72 [(.var 0), (.var 3), (.var 5)])] [] [6])] [5], .frz 4, .sset 2 (.var 3) (.var 4)])
    dT (fun (j : Nat) => [.val (dSh s), .val (.rng 0 (s.ks.length : Nat)), .own (.dic true (((conts s.caps).take j).map (wE s))), .unk, .unk, .unk, .unk]) (fun j _ => j + 1) (fun i j => j = i) (conts s.caps) 0 0 rfl (fun _ => rfl) (fun j x j' hj hp => by
      rw [Nat.zero_add] at hp ⊢
      subst hp
      have hx := mem_conts.mp (List.mem_of_getElem? hj)
      refine ⟨rfl, [.val (dSh s), .val (.rng 0 (s.ks.length : Nat)), .own (.dic true (((conts s.caps).take (j' + 1)).map (wE s))), .val (dT x), .val (fW s x), .unk, .unk], ?_, rfl⟩
      rw [x_bindN, Option.bind_some]
      simp only [List.set_cons_succ, List.set_cons_zero]
      rw [exs_asgO (d := .lst ((s.ks.take 0).map fun kd => .lst ((beh s x kd).map dT))) ev_lst0 rfl]
      simp only [List.set_cons_succ, List.set_cons_zero]
      have hin := forL_foldA (kl := [5]) (step := fun d e => (bind (.name 5) d e).bind fun e' => exs G GI e' [.app 4 (.comp (.call 73 [(.var 0), (.var 3), (.var 5), (.var 6)]) (.name 6) .seq [(.call 72 [(.var 0), (.var 3), (.var 5)])] [] [6])])
        (fun (k : Nat) => .int k) (fun (i : Nat) => [.val (dSh s), .val (.rng 0 (s.ks.length : Nat)), .own (.dic true (((conts s.caps).take j').map (wE s))), .val (dT x), .own (.lst ((s.ks.take i).map fun kd => .lst ((beh s x kd).map dT))), .unk, .unk]) (fun i _ => i + 1) (fun i k => k = i) (List.range s.ks.length) 0 0 rfl (fun _ => rfl) (fun i a i' hi hp => by
          rw [Nat.zero_add] at hp ⊢
          subst hp
          have hil : i' < s.ks.length := by have := (List.getElem?_eq_some_iff.mp hi).1; simpa using this
          have hae : a = i' := by rw [List.getElem?_range hil] at hi; simpa using hi.symm
          subst hae
          obtain ⟨kd, hkd⟩ : ∃ kd, s.ks[a]? = some kd := ⟨_, List.getElem?_eq_getElem hil⟩
          refine ⟨rfl, [.val (dSh s), .val (.rng 0 (s.ks.length : Nat)), .own (.dic true (((conts s.caps).take j').map (wE s))), .val (dT x), .own (.lst ((s.ks.take (a + 1)).map fun kd => .lst ((beh s x kd).map dT))), .val (.int a), .unk], ?_, rfl⟩
          rw [x_bindN, Option.bind_some]
          simp only [List.set_cons_succ, List.set_cons_zero]
          rw [exs_app (xs := (s.ks.take a).map fun kd => .lst ((beh s x kd).map dT)) rfl (hbeh hkd hx _ rfl rfl rfl (by simp)) (line_pos (by simp; omega)), take_one hkd, List.map_append]; rfl)
      have hf := hin.2
      rw [Nat.zero_add, List.length_range] at hf
      have hin1 := hin.1
      rw [hf, List.take_of_length_le (Nat.le_refl _)] at hin1
      rw [exs_for (vs := [.rng 0 (s.ks.length : Nat)]) (by simp) (walk_rg0 (by omega)) hin1]
      rw [exs_frz (d := fW s x) rfl]
      simp only [List.set_cons_succ, List.set_cons_zero]
      rw [exs_sset (v := fW s x) (x := .dic true (((conts s.caps).take j').map (wE s))) (kd := dT x) (by rw [se_var]; rfl) rfl (by rw [se_var]; rfl) (putAt_dT (fun p hp => by
        obtain ⟨y, hy, rfl⟩ := List.mem_map.mp hp
        show D.eqb (dT y) (dT x) = false
        rw [eqb_dT, decide_eq_false]
        intro e
        exact not_take (nodup_conts _) hj (by rw [← e]; exact hy)) (by rw [List.length_map, List.length_take]; omega))]
      simp only [List.set_cons_succ, List.set_cons_zero]
      rw [exs_nil, take_one hj, List.map_append]; rfl)
  have hf := hloop.2
  rw [Nat.zero_add] at hf
  have hl1 := hloop.1
  rw [hf, List.take_of_length_le (Nat.le_refl _)] at hl1
  rw [exs_for (vs := [.lst ((conts s.caps).map dT)]) (by rw [se_cons, ev_call (ds := [dT s.caps]) (by rw [se_cons, ev_caps rfl, se_nil]; rfl) h75, se_nil]; rfl) rfl hl1]
  rw [exs_frz (d := dW s) rfl]
  simp only [List.set_cons_succ, List.set_cons_zero]
  rw [exs_ret (d := dW s) (by rw [se_var]; rfl)]; rfl
end
end Rx
end

section
set_option Elab.async false
set_option linter.all false
set_option maxRecDepth 100000
set_option maxHeartbeats 1000000
set_option autoImplicit false
/-! L73f: the run of ranks_of. -/
namespace Rx
theorem get_wE (s : Shop) {c : List Nat} (h : c ∈ conts s.caps) : D.get ((conts s.caps).map (wE s)) (dT c) = some (fW s c) := by
  have := get_map (fW s) (conts s.caps) c
  rw [if_pos h] at this
  exact this
abbrev envW (s : Shop) (t : Nat) (f : Bool) : Env := [.val (dSh s), .val (dW s), .own (.dic true ((As s t).map rE)), .val (.int t), .val (.bl f), .unk, .unk, .unk, .unk]
abbrev bodyW : List Rx.S := [.aug 3 .add (.int 1), .asg 5 (.comp (.var 6) (.name 6) .keys [(.ife (.val (.bl true)) (.var 1) .non)] [(.and (.val (.cmp .notin (.var 6) (.var 2))) (.val (.b1 .any (.comp (.b1 .all (.comp (.cmp .isin (.var 8) (.var 2)) (.name 8) .seq [(.var 7)] [] [8])) (.name 7) .seq [(.sub (.var 1) (.var 6))] [] [7]))))] [6]), .for_ (.name 6) .seq [(.var 5)] [.sset 2 (.var 6) (.var 3)] [6], .asg 4 (.cmp .gt (.b1 .len (.var 5)) (.int 0))]
section
variable {s : Shop} (S : Sh s)
include S
theorem len_As (t : Nat) : (As s t).length ≤ 64 := by
  have h1 := Lv_bound s t
  have h2 := len_conts S
  rw [← As_keys, List.length_map] at h1
  omega
theorem ev_fresh {G : Nat → List D → Option D} (t : Nat) : ev G [.val (dSh s), .val (dW s), .own (.dic true ((As s t).map rE)), .val (.int ((t + 1 : Nat) : Int)), .val (.bl true), .unk, .unk, .unk, .unk] (.comp (.var 6) (.name 6) .keys [(.ife (.val (.bl true)) (.var 1) .non)] [(.and (.val (.cmp .notin (.var 6) (.var 2))) (.val (.b1 .any (.comp (.b1 .all (.comp (.cmp .isin (.var 8) (.var 2)) (.name 8) .seq [(.var 7)] [] [8])) (.name 7) .seq [(.sub (.var 1) (.var 6))] [] [7]))))] [6]) = some (.lst ((fresh s (Lv s t)).map dT)) := by
  have hlc := len_conts S
  have hw : walk .keys [dW s] = some ((conts s.caps).map dT) := by
    show some (((conts s.caps).map (wE s)).map (·.1)) = _
    rw [List.map_map]; rfl
  refine ev_compA (conts s.caps) dT dT (fun c => !(Lv s t).contains c && s.ks.any fun kd => (beh s c kd).all fun b => (Lv s t).contains b) (vs := [dW s]) (by
    rw [sb_cons, bo_ife, se_ife, st_val, bo_bl, se_bl]
    simp) hw (line_pos (by omega)) fun c hc => ⟨_, x_bindN, ?_, fun _ => by rw [se_var]; rfl⟩
  have hcc := mem_conts.mp hc
  simp only [x_kill1, x_kill0, List.set_cons_succ, List.set_cons_zero]
  generalize hE : ([.val (dSh s), .val (dW s), .own (.dic true ((As s t).map rE)), .val (.int ((t + 1 : Nat) : Int)), .val (.bl true), .unk, .val (dT c), .unk, .unk] : Env) = E0
  have t1 : ts G E0 (.val (.cmp .notin (.var 6) (.var 2))) = some (!(Lv s t).contains c) := by
    subst hE
    refine ts_val (x := .bl (!(Lv s t).contains c)) ?_ rfl
    rw [bo_cmp, se_cmp, bo_var, bo_var]
    show ((D.isIn (dT c) (.dic true ((As s t).map rE))).map not).map D.bl = _
    rw [isIn_R]; rfl
  have t2 : ts G E0 (.val (.b1 .any (.comp (.b1 .all (.comp (.cmp .isin (.var 8) (.var 2)) (.name 8) .seq [(.var 7)] [] [8])) (.name 7) .seq [(.sub (.var 1) (.var 6))] [] [7]))) = some (s.ks.any fun kd => (beh s c kd).all fun b => (Lv s t).contains b) := by
    subst hE
    refine ts_val (x := .bl (s.ks.any fun kd => (beh s c kd).all fun b => (Lv s t).contains b)) ?_ rfl
    have hc1 := ev_compM (G := G) (env := [.val (dSh s), .val (dW s), .own (.dic true ((As s t).map rE)), .val (.int ((t + 1 : Nat) : Int)), .val (.bl true), .unk, .val (dT c), .unk, .unk]) (e := .b1 .all (.comp (.cmp .isin (.var 8) (.var 2)) (.name 8) .seq [(.var 7)] [] [8])) (t := .name 7) (k := .seq) (es := [(.sub (.var 1) (.var 6))]) (own := [7]) (vs := [fW s c]) s.ks (fun kd => .lst ((beh s c kd).map dT)) (fun kd => .bl ((beh s c kd).all fun b => (Lv s t).contains b)) (by
      rw [sb_cons, bo_sub, se_sub, bo_var, se_var]
      show ((if isKey true (dT c) = true then D.get ((conts s.caps).map (wE s)) (dT c) else none).bind fun x => (evB G _ []).map (x :: ·)) = _
      rw [if_pos (key_dT c), get_wE s hc, sb_nil]; rfl) rfl (line_pos (by have := S.nk; omega)) fun kd hk => ⟨_, x_bindN, by
        simp only [x_kill1, x_kill0, List.set_cons_succ, List.set_cons_zero]
        refine ev_b1c (x := .lst ((beh s c kd).map fun b => .bl ((Lv s t).contains b))) ?_ (all_bl _ _)
        refine ev_compM (beh s c kd) dT (fun b => .bl ((Lv s t).contains b)) (vs := [.lst ((beh s c kd).map dT)]) (by rw [sb_cons, bo_var, sb_nil]; rfl) rfl (line_pos (by have := len_beh S hcc hk; omega)) fun b hb => ⟨_, x_bindN, ?_⟩
        simp only [x_kill1, x_kill0, List.set_cons_succ, List.set_cons_zero]
        rw [se_cmp, bo_var, bo_var]
        show (D.isIn (dT b) (.dic true ((As s t).map rE))).map D.bl = _
        rw [isIn_R]; rfl⟩
    rw [bo_b1, ev_b1c hc1 (any_bl _ _)]
  rw [st_and, t1, Option.bind_some]
  cases (Lv s t).contains c with
  | true => rfl
  | false => simp only [Bool.not_false, if_true, t2, Bool.true_and]
theorem turn77 {G GI : Nat → List D → Option D} (t : Nat) : ∃ e', exs G GI (envW s t true) bodyW = some (.nx, e') ∧ e'.kill [5, 6] = envW s (t + 1) (decide (0 < (fresh s (Lv s t)).length)) := by
  have hlc := len_conts S
  have hAl := len_As S t
  have hfr := ev_fresh S (G := G) t
  have hfl := List.length_filter_le (fun c => !(Lv s t).contains c && s.ks.any fun kd => (beh s c kd).all fun b => (Lv s t).contains b) (conts s.caps)
  have hfnd : (fresh s (Lv s t)).Nodup := (nodup_conts _).filter _
  have hfk : ∀ c ∈ fresh s (Lv s t), c ∉ Lv s t := fun c hc => (mem_fresh.mp hc).2.1
  have hfl2 : (fresh s (Lv s t)).length ≤ 64 := Nat.le_trans hfl hlc
  have hAs : As s (t + 1) = As s t ++ (fresh s (Lv s t)).map fun c => (c, t + 1) := rfl
  unfold envW
  rw [hAs]
  have hkeys := As_keys s t
  generalize fresh s (Lv s t) = fr at *
  refine ⟨[.val (dSh s), .val (dW s), .own (.dic true ((As s t ++ fr.map fun c => (c, t + 1)).map rE)), .val (.int ((t + 1 : Nat) : Int)), .val (.bl (decide (0 < fr.length))), .val (.lst (fr.map dT)), .unk, .unk, .unk], ?_, rfl⟩
  rw [exs_aug (x := .int t) (y := .int (1 : Nat)) (d := .int ((t + 1 : Nat) : Int)) rfl (by rw [se_int]; rfl) rfl]
  simp only [List.set_cons_succ, List.set_cons_zero]
  rw [exs_asg hfr]
  simp only [List.set_cons_succ, List.set_cons_zero]
  have hloop := forL_foldA (kl := [6]) (step := fun d e => (bind (.name 6) d e).bind fun e' => exs G GI e' [.sset 2 (.var 6) (.var 3)]) dT
    (fun (j : Nat) => [.val (dSh s), .val (dW s), .own (.dic true ((As s t ++ (fr.take j).map fun c => (c, t + 1)).map rE)), .val (.int ((t + 1 : Nat) : Int)), .val (.bl true), .val (.lst (fr.map dT)), .unk, .unk, .unk]) (fun j _ => j + 1) (fun i j => j = i) fr 0 0 rfl (fun _ => rfl) (fun j x j' hj hp => by
      rw [Nat.zero_add] at hp ⊢
      subst hp
      refine ⟨rfl, [.val (dSh s), .val (dW s), .own (.dic true ((As s t ++ (fr.take (j' + 1)).map fun c => (c, t + 1)).map rE)), .val (.int ((t + 1 : Nat) : Int)), .val (.bl true), .val (.lst (fr.map dT)), .val (dT x), .unk, .unk], ?_, rfl⟩
      rw [x_bindN, Option.bind_some]
      simp only [List.set_cons_succ, List.set_cons_zero]
      rw [exs_sset (v := .int ((t + 1 : Nat) : Int)) (x := .dic true ((As s t ++ (fr.take j').map fun c => (c, t + 1)).map rE)) (kd := dT x) (by rw [se_var]; rfl) rfl (by rw [se_var]; rfl) (putAt_dT (fun p hp => by
        obtain ⟨q, hq, rfl⟩ := List.mem_map.mp hp
        show D.eqb (dT q.1) (dT x) = false
        rw [eqb_dT, decide_eq_false]
        intro e
        rcases List.mem_append.mp hq with hq | hq
        · exact hfk x (List.mem_of_getElem? hj) (by rw [← hkeys, ← e]; exact List.mem_map.mpr ⟨q, hq, rfl⟩)
        · obtain ⟨y, hy, rfl⟩ := List.mem_map.mp hq
          exact not_take hfnd hj (by rw [← e]; exact hy)) (by rw [List.length_map, List.length_append, List.length_map, List.length_take]; omega))]
      simp only [List.set_cons_succ, List.set_cons_zero]
      rw [exs_nil, take_one hj]
      simp)
  have hf := hloop.2
  rw [Nat.zero_add] at hf
  have hl1 := hloop.1
  rw [hf, List.take_of_length_le (Nat.le_refl _)] at hl1
  rw [List.take_zero, List.map_nil, List.append_nil] at hl1
  rw [exs_for (vs := [.lst (fr.map dT)]) (by simp) rfl hl1]
  rw [exs_asg (d := .bl (decide (0 < fr.length))) (by
    rw [se_cmp, bo_b1, ev_b1 (x := .lst (fr.map dT)) (z := .int (fr.length : Nat)) (by rw [bo_var]; rfl) (by rw [opU_lenL, List.length_map]), Option.bind_some, bo_int, se_int, Option.bind_some]
    show (opC .gt (.int (fr.length : Nat)) (.int 0)).map D.bl = _
    rw [opC_gt, show decide ((0 : Int) < ((fr.length : Nat) : Int)) = decide (0 < fr.length) from dlt_nat (a := 0)]; rfl)]
  simp only [List.set_cons_succ, List.set_cons_zero]
  rw [exs_nil]
theorem loop77 {G GI : Nat → List D → Option D} : ∀ (d t m : Nat), t + d = Tn s → d + 2 ≤ m → whlL (fun e => ts G e (.val (.var 4))) (fun e => exs G GI e bodyW) [5, 6] m (envW s t true) = some (.nx, envW s (Tn s + 1) false)
  | d, t, 0, _, hm => by omega
  | d, t, m + 1, hd, hm => by
    obtain ⟨e', h1, h2⟩ := turn77 S (G := G) (GI := GI) t
    rw [whlL]
    have t1 : ∀ (u : Nat) (f : Bool), ts G (envW s u f) (.val (.var 4)) = some f := fun u f => ts_val (x := .bl f) (by rw [bo_var]; rfl) rfl
    rw [t1, Option.bind_some]
    simp only [if_true]
    rw [h1]
    show whlL _ _ [5, 6] m (e'.kill [5, 6]) = _
    rw [h2]
    cases d with
    | zero =>
      have e : t = Tn s := by omega
      subst e
      rw [Tn_end]
      cases m with
      | zero => omega
      | succ m =>
        rw [whlL]
        show ((ts G (envW s (Tn s + 1) false) (.val (.var 4))).bind _) = _
        rw [t1, Option.bind_some]
        rfl
    | succ d =>
      rw [decide_eq_true (List.length_pos_iff.mpr (Tn_on s (by omega)))]
      exact loop77 d (t + 1) m (by omega) (by omega)
noncomputable abbrev dRk (s : Shop) : D := .dic true ((As s (Tn s)).map rE)
theorem r77 (c : Nat) : run defs (c + 5) 77 [dSh s] = some (dRk s) := by
  refine run_of (fn := f_ranks_of) rfl rfl rfl ?_
  have h76 := r76 S c
  have hT := Tn_le s
  have hlc := len_conts S
  generalize run defs (c + 4) = G at *
  generalize runI defs (c + 4) = GI
  show retD (exs G GI [.val (dSh s), .unk, .unk, .unk, .unk, .unk, .unk, .unk, .unk] (.asg 1 _ :: .asgO 2 _ :: .asg 3 _ :: .asg 4 _ :: .whl _ _ _ :: .frz 2 :: [.ret _])) = _
  rw [exs_asg (ev_call (ds := [dSh s]) (by simp) h76)]
  simp only [List.set_cons_succ, List.set_cons_zero]
  rw [exs_asgO (d := .dic true ((As s 0).map rE)) (by rw [ev]; rfl) rfl]
  simp only [List.set_cons_succ, List.set_cons_zero]
  rw [exs_asg (d := .int (0 : Nat)) (by rw [se_int]; rfl)]
  simp only [List.set_cons_succ, List.set_cons_zero]
  rw [exs_asg (d := .bl true) (by rw [se_bl])]
  simp only [List.set_cons_succ, List.set_cons_zero]
  rw [exs_whl (loop77 S (Tn s) 0 1000000 (by omega) (by omega))]
  have hA : As s (Tn s + 1) = As s (Tn s) := by rw [As, Tn_end]; simp
  rw [envW, hA]
  rw [exs_frz (d := dRk s) rfl]
  simp only [List.set_cons_succ, List.set_cons_zero]
  rw [exs_ret (d := dRk s) (by rw [se_var]; rfl)]; rfl
end
end Rx
end

section
set_option Elab.async false
set_option linter.all false
set_option maxRecDepth 100000
set_option maxHeartbeats 1000000
set_option autoImplicit false
/-! L73g: runs of is_safe, least_of, greatest_of, least_floats, greatest_unsafe, holds_one, fails_within, breaker, least_caps. -/
namespace Rx
def oD (o : Option Nat) : D := match o with | none => .non | some r => .int (r : Nat)
theorem oD_of (o : Option Nat) : (o.map fun (r : Nat) => D.int (r : Int)).getD .non = oD o := by cases o <;> rfl
section
variable {s : Shop} (S : Sh s)
include S
omit S in
theorem isIn_rk (x : List Nat) : D.isIn (dT x) (dRk s) = some (rk s x).isSome := by
  show (if isKey true (dT x) = true then some (D.get ((As s (Tn s)).map rE) (dT x)).isSome else none) = _
  rw [if_pos (key_dT x), get_rE, Option.isSome_map]; rfl
omit S in
theorem not_some (o : Option Nat) : (!o.isSome) = o.isNone := by cases o <;> rfl
theorem r78 (c : Nat) (x : List Nat) : run defs (c + 6) 78 [dSh s, dT x] = some (.bl (rk s x).isNone) := by
  refine run_of (fn := f_is_safe) rfl rfl rfl ?_
  have h77 := r77 S c
  generalize run defs (c + 5) = G at *
  generalize runI defs (c + 5) = GI
  show retD (exs G GI [.val (dSh s), .val (dT x)] [.ret _]) = _
  rw [exs_ret (d := .bl (rk s x).isNone) (by
    rw [se_cmp, bo_var, bo_call, ev_call (ds := [dSh s]) (by simp) h77]
    show ((D.isIn (dT x) (dRk s)).map not).map D.bl = _
    rw [isIn_rk, Option.map_some, not_some]; rfl)]
  rfl
omit S in
theorem r79 (c : Nat) {l : List (List Nat)} {n : Nat} (hn : ∀ x ∈ l, x.length = n) (h3 : n ≤ 1000) (hl : l.length ≤ 1000) : run defs (c + 2) 79 [.lst (l.map dT)] = some (.tup ((leastV l).map dT)) := by
  refine run_of (fn := f_least_of) rfl rfl rfl ?_
  have h68 := fun {x y : List Nat} (h : x.length = y.length) hl => r68 c h hl
  generalize run defs (c + 1) = G at *
  generalize runI defs (c + 1) = GI
  show retD (exs G GI [.val (.lst (l.map dT)), .unk, .unk] [.ret _]) = _
  have hc := ev_compA (G := G) (env := [.val (.lst (l.map dT)), .unk, .unk]) (e := .var 1) (t := .name 1) (k := .seq) (es := [.var 0]) (c := .not (.val (.b1 .any (.comp (.and (.cmp .ne (.var 2) (.var 1)) (.call 68 [(.var 1), (.var 2)])) (.name 2) .seq [(.var 0)] [] [2])))) (own := [1]) (vs := [.lst (l.map dT)]) l dT dT (fun r => !l.any fun o => (!decide (o = r)) && leV o r) (by simp) rfl (line_pos (by omega)) fun r hr => ⟨_, x_bindN, ts_not (c := l.any fun o => (!decide (o = r)) && leV o r) (ts_val (x := .bl (l.any fun o => (!decide (o = r)) && leV o r)) (by
    simp only [x_kill1, x_kill0, List.set_cons_succ, List.set_cons_zero]
    rw [bo_b1]
    refine ev_b1c (x := .lst (l.map fun o => .bl ((!decide (o = r)) && leV o r))) ?_ (any_bl _ _)
    refine ev_compM l dT (fun o => .bl ((!decide (o = r)) && leV o r)) (vs := [.lst (l.map dT)]) (by rw [sb_cons, bo_var, sb_nil]; rfl) rfl (line_pos (by omega)) fun o ho => ⟨_, x_bindN, ?_⟩
    simp only [x_kill1, x_kill0, List.set_cons_succ, List.set_cons_zero]
    rw [se_and, se_cmp, bo_var, bo_var]
    show ((opC .ne (dT o) (dT r)).map D.bl).bind _ = _
    rw [ne_dT, ev_call (ds := [dT r, dT o]) (by simp) (h68 ((hn r hr).trans (hn o ho).symm) (by rw [hn r hr]; exact h3))]
    cases decide (o = r) <;> rfl) rfl) rfl, fun _ => by simp⟩
  rw [exs_ret (ev_b1c hc opU_tupL)]; rfl
omit S in
theorem r80 (c : Nat) {l : List (List Nat)} {n : Nat} (hn : ∀ x ∈ l, x.length = n) (h3 : n ≤ 1000) (hl : l.length ≤ 1000) : run defs (c + 2) 80 [.lst (l.map dT)] = some (.tup ((mostV l).map dT)) := by
  refine run_of (fn := f_greatest_of) rfl rfl rfl ?_
  have h68 := fun {x y : List Nat} (h : x.length = y.length) hl => r68 c h hl
  generalize run defs (c + 1) = G at *
  generalize runI defs (c + 1) = GI
  show retD (exs G GI [.val (.lst (l.map dT)), .unk, .unk] [.ret _]) = _
  have hc := ev_compA (G := G) (env := [.val (.lst (l.map dT)), .unk, .unk]) (e := .var 1) (t := .name 1) (k := .seq) (es := [.var 0]) (c := .not (.val (.b1 .any (.comp (.and (.cmp .ne (.var 2) (.var 1)) (.call 68 [(.var 2), (.var 1)])) (.name 2) .seq [(.var 0)] [] [2])))) (own := [1]) (vs := [.lst (l.map dT)]) l dT dT (fun r => !l.any fun o => (!decide (o = r)) && leV r o) (by simp) rfl (line_pos (by omega)) fun r hr => ⟨_, x_bindN, ts_not (c := l.any fun o => (!decide (o = r)) && leV r o) (ts_val (x := .bl (l.any fun o => (!decide (o = r)) && leV r o)) (by
    simp only [x_kill1, x_kill0, List.set_cons_succ, List.set_cons_zero]
    rw [bo_b1]
    refine ev_b1c (x := .lst (l.map fun o => .bl ((!decide (o = r)) && leV r o))) ?_ (any_bl _ _)
    refine ev_compM l dT (fun o => .bl ((!decide (o = r)) && leV r o)) (vs := [.lst (l.map dT)]) (by rw [sb_cons, bo_var, sb_nil]; rfl) rfl (line_pos (by omega)) fun o ho => ⟨_, x_bindN, ?_⟩
    simp only [x_kill1, x_kill0, List.set_cons_succ, List.set_cons_zero]
    rw [se_and, se_cmp, bo_var, bo_var]
    show ((opC .ne (dT o) (dT r)).map D.bl).bind _ = _
    rw [ne_dT, ev_call (ds := [dT o, dT r]) (by simp) (h68 ((hn o ho).trans (hn r hr).symm) (by rw [hn o ho]; exact h3))]
    cases decide (o = r) <;> rfl) rfl) rfl, fun _ => by simp⟩
  rw [exs_ret (ev_b1c hc opU_tupL)]; rfl
noncomputable def flo (s : Shop) : List (List Nat) := leastV ((conts s.caps).filter fun c => (rk s c).isNone)
noncomputable def wor (s : Shop) : List (List Nat) := mostV ((conts s.caps).filter fun c => (rk s c).isSome)
theorem conts_n {x : List Nat} (h : x ∈ conts s.caps) : x.length = s.vs.length := Sh_len S (mem_conts.mp h)
theorem r81 (c : Nat) : run defs (c + 6) 81 [dSh s] = some (.tup ((flo s).map dT)) := by
  refine run_of (fn := f_least_floats) rfl rfl rfl ?_
  have h77 := r77 S c
  have h75 := r75 (c + 4) (caps := s.caps) S.c3 (by have := S.nc; have := S.nv; omega)
  have hlc := len_conts S
  have h79 := r79 (c + 3) (l := (conts s.caps).filter fun c => (rk s c).isNone) (n := s.vs.length) (fun x hx => conts_n S (List.mem_filter.mp hx).1) (by have := S.nv; omega) (Nat.le_trans (List.length_filter_le _ _) (by omega))
  generalize run defs (c + 5) = G at *
  generalize runI defs (c + 5) = GI
  show retD (exs G GI [.val (dSh s), .unk, .unk] (.asg 1 _ :: [.ret _])) = _
  rw [exs_asg (ev_call (ds := [dSh s]) (by simp) h77)]
  simp only [List.set_cons_succ, List.set_cons_zero]
  have hc := ev_compA (G := G) (env := [.val (dSh s), .val (dRk s), .unk]) (e := .var 2) (t := .name 2) (k := .seq) (es := [(.call 75 [(.sub (.var 0) (.int 1))])]) (c := .val (.cmp .notin (.var 2) (.var 1))) (own := [2]) (vs := [.lst ((conts s.caps).map dT)]) (conts s.caps) dT dT (fun c => (rk s c).isNone) (by
    rw [sb_cons, bo_call, ev_call (ds := [dT s.caps]) (by rw [se_cons, ev_caps rfl, se_nil]; rfl) h75, sb_nil]; rfl) rfl (line_pos (by omega)) fun x hx => ⟨_, x_bindN, ts_val (x := .bl (rk s x).isNone) (by
      rw [bo_cmp, se_cmp, bo_var, bo_var]
      show ((D.isIn (dT x) (dRk s)).map not).map D.bl = _
      rw [isIn_rk, Option.map_some, not_some]; rfl) rfl, fun _ => by simp⟩
  rw [exs_ret (ev_call (ds := [.lst (((conts s.caps).filter fun c => (rk s c).isNone).map dT)]) (by rw [se_cons, hc, se_nil]; rfl) h79)]; rfl
theorem r82 (c : Nat) : run defs (c + 6) 82 [dSh s] = some (.tup ((wor s).map dT)) := by
  refine run_of (fn := f_greatest_unsafe) rfl rfl rfl ?_
  have h77 := r77 S c
  have h75 := r75 (c + 4) (caps := s.caps) S.c3 (by have := S.nc; have := S.nv; omega)
  have hlc := len_conts S
  have h80 := r80 (c + 3) (l := (conts s.caps).filter fun c => (rk s c).isSome) (n := s.vs.length) (fun x hx => conts_n S (List.mem_filter.mp hx).1) (by have := S.nv; omega) (Nat.le_trans (List.length_filter_le _ _) (by omega))
  generalize run defs (c + 5) = G at *
  generalize runI defs (c + 5) = GI
  show retD (exs G GI [.val (dSh s), .unk, .unk] (.asg 1 _ :: [.ret _])) = _
  rw [exs_asg (ev_call (ds := [dSh s]) (by simp) h77)]
  simp only [List.set_cons_succ, List.set_cons_zero]
  have hc := ev_compA (G := G) (env := [.val (dSh s), .val (dRk s), .unk]) (e := .var 2) (t := .name 2) (k := .seq) (es := [(.call 75 [(.sub (.var 0) (.int 1))])]) (c := .val (.cmp .isin (.var 2) (.var 1))) (own := [2]) (vs := [.lst ((conts s.caps).map dT)]) (conts s.caps) dT dT (fun c => (rk s c).isSome) (by
    rw [sb_cons, bo_call, ev_call (ds := [dT s.caps]) (by rw [se_cons, ev_caps rfl, se_nil]; rfl) h75, sb_nil]; rfl) rfl (line_pos (by omega)) fun x hx => ⟨_, x_bindN, ts_val (x := .bl (rk s x).isSome) (by
      rw [bo_cmp, se_cmp, bo_var, bo_var]
      show (D.isIn (dT x) (dRk s)).map D.bl = _
      rw [isIn_rk]; rfl) rfl, fun _ => by simp⟩
  rw [exs_ret (ev_call (ds := [.lst (((conts s.caps).filter fun c => (rk s c).isSome).map dT)]) (by rw [se_cons, hc, se_nil]; rfl) h80)]; rfl
omit S in
theorem r83 (c : Nat) {l : List (List Nat)} {x : List Nat} (hn : ∀ o ∈ l, o.length = x.length) (h3 : x.length ≤ 1000) (hl : l.length ≤ 1000) : run defs (c + 2) 83 [dT x, .lst (l.map dT)] = some (.bl (l.any fun o => leV o x)) := by
  refine run_of (fn := f_holds_one) rfl rfl rfl ?_
  have h68 := fun {y : List Nat} (h : x.length = y.length) => r68 c h h3
  generalize run defs (c + 1) = G at *
  generalize runI defs (c + 1) = GI
  show retD (exs G GI [.val (dT x), .val (.lst (l.map dT)), .unk] [.ret _]) = _
  have hc := ev_compM (G := G) (env := [.val (dT x), .val (.lst (l.map dT)), .unk]) (e := .call 68 [(.var 0), (.var 2)]) (t := .name 2) (k := .seq) (es := [.var 1]) (own := [2]) (vs := [.lst (l.map dT)]) l dT (fun o => .bl (leV o x)) (by simp) rfl (line_pos (by omega)) fun o ho => ⟨_, x_bindN, ev_call (ds := [dT x, dT o]) (by simp) (h68 (hn o ho).symm)⟩
  rw [exs_ret (ev_b1c hc (any_bl _ _))]; rfl
theorem r84 (c : Nat) (x : List Nat) : run defs (c + 6) 84 [dSh s, dT x] = some (oD (rk s x)) := by
  refine run_of (fn := f_fails_within) rfl rfl rfl ?_
  have h77 := r77 S c
  generalize run defs (c + 5) = G at *
  generalize runI defs (c + 5) = GI
  show retD (exs G GI [.val (dSh s), .val (dT x)] [.ret _]) = _
  rw [exs_ret (d := oD (rk s x)) (by
    rw [se_b2, bo_call, ev_call (ds := [dSh s]) (by simp) h77, Option.bind_some, se_var]
    show (if isKey true (dT x) = true then some ((D.get ((As s (Tn s)).map rE) (dT x)).getD .non) else none) = _
    rw [if_pos (key_dT x), get_rE, oD_of]; rfl)]
  rfl
end
theorem forL_find {step : D → Env → Option (Fl × Env)} {kl : List Nat} {env : Env} {e1 : Env} {k : Nat} (h2 : step (.int k) env = some (.rt (.int k), e1)) (b : List Nat) : ∀ a : List Nat, (∀ j ∈ a, ∃ e', step (.int j) env = some (.nx, e') ∧ e'.kill kl = env) → forL step kl ((a ++ k :: b).map fun (k : Nat) => .int k) env = some (.rt (.int k), e1)
  | [], _ => by
    rw [List.nil_append, List.map_cons, forL, h2]; rfl
  | j :: a, h => by
    obtain ⟨e', q1, q2⟩ := h j (List.mem_cons_self ..)
    rw [List.cons_append, List.map_cons, forL, q1]
    show forL step kl ((a ++ k :: b).map fun (k : Nat) => .int k) (e'.kill kl) = _
    rw [q2]
    exact forL_find h2 b a fun j hj => h j (List.mem_cons_of_mem _ hj)
theorem range_split {k n : Nat} (h : k < n) : List.range n = List.range k ++ k :: (List.range n).drop (k + 1) := by
  conv => lhs; rw [← List.take_append_drop k (List.range n)]
  rw [List.take_range, Nat.min_eq_left (by omega), List.drop_eq_getElem_cons (by simpa using h)]
  simp
section
variable {s : Shop} (S : Sh s)
include S
theorem get_rk {x : List Nat} {r : Nat} (e : rk s x = some r) : opSub (dRk s) (dT x) = some (.int (r : Nat)) := by
  show (if isKey true (dT x) = true then D.get ((As s (Tn s)).map rE) (dT x) else none) = _
  rw [if_pos (key_dT x), get_rE]
  show (rk s x).map _ = _
  rw [e]; rfl
theorem r85n (c : Nat) {x : List Nat} (e : rk s x = none) : run defs (c + 6) 85 [dSh s, dT x] = some .non := by
  refine run_of (fn := f_breaker) rfl rfl rfl ?_
  have h77 := r77 S c
  generalize run defs (c + 5) = G at *
  generalize runI defs (c + 5) = GI
  show retD (exs G GI [.val (dSh s), .val (dT x), .unk, .unk, .unk, .unk, .unk] (.asg 2 _ :: .ifs _ _ _ :: _)) = _
  rw [exs_asg (ev_call (ds := [dSh s]) (by simp) h77)]
  simp only [List.set_cons_succ, List.set_cons_zero]
  rw [exs_ifR (d := .non) (ts_val (x := .bl true) (by
    rw [bo_cmp, se_cmp, bo_var, bo_var]
    show ((D.isIn (dT x) (dRk s)).map not).map D.bl = _
    rw [isIn_rk, e]; rfl) rfl) (exs_ret (by rw [se_non]))]
  rfl
theorem r85s (c : Nat) {x : List Nat} (hx : leV x s.caps = true) {r k : Nat} (e : rk s x = some r) {kd : List Nat × Nat} (hk : s.ks[k]? = some kd) (hg : goodK s x r kd = true) (hb : ∀ j kj, j < k → s.ks[j]? = some kj → goodK s x r kj = false) : run defs (c + 6) 85 [dSh s, dT x] = some (.int (k : Nat)) := by
  refine run_of (fn := f_breaker) rfl rfl rfl ?_
  have h77 := r77 S c
  have hbeh := fun {k : Nat} {kd : List Nat × Nat} (h : s.ks[k]? = some kd) (env : Env) h0 h1 h2 hi => ev_beh S (c := c + 2) h hx (env := env) (i1 := 1) (i2 := 3) (i3 := 5) h0 h1 h2 (by decide) (by decide) (by decide) hi
  generalize run defs (c + 5) = G at *
  generalize runI defs (c + 5) = GI
  show retD (exs G GI [.val (dSh s), .val (dT x), .unk, .unk, .unk, .unk, .unk] (.asg 2 _ :: .ifs _ _ _ :: .for_ _ _ _ _ _ :: [.ret _])) = _
  rw [exs_asg (ev_call (ds := [dSh s]) (by simp) h77)]
  simp only [List.set_cons_succ, List.set_cons_zero]
  rw [exs_skip (ts_val (x := .bl false) (by
    rw [bo_cmp, se_cmp, bo_var, bo_var]
    show ((D.isIn (dT x) (dRk s)).map not).map D.bl = _
    rw [isIn_rk, e]; rfl) rfl)]
  have hkl := (List.getElem?_eq_some_iff.mp hk).1
  have htest : ∀ {j : Nat} {kj : List Nat × Nat}, s.ks[j]? = some kj → ts G [.val (dSh s), .val (dT x), .val (dRk s), .val (.int j), .val (.lst ((beh s x kj).map dT)), .unk, .unk] (.val (.b1 .all (.comp (.and (.cmp .isin (.var 6) (.var 2)) (.cmp .lt (.sub (.var 2) (.var 6)) (.sub (.var 2) (.var 1)))) (.name 6) .seq [(.var 4)] [] [6]))) = some (goodK s x r kj) := fun {j kj} hj => by
    have hm := List.mem_of_getElem? hj
    refine ts_val (x := .bl (goodK s x r kj)) ?_ rfl
    rw [bo_b1]
    refine ev_b1c (x := .lst ((beh s x kj).map fun b => .bl (lessO r (rk s b)))) ?_ (all_bl _ _)
    refine ev_compM (beh s x kj) dT (fun b => .bl (lessO r (rk s b))) (vs := [.lst ((beh s x kj).map dT)]) (by rw [sb_cons, bo_var, sb_nil]; rfl) rfl (line_pos (by have := len_beh S hx hm; omega)) fun b hb => ⟨_, x_bindN, ?_⟩
    simp only [x_kill1, x_kill0, List.set_cons_succ, List.set_cons_zero]
    rw [se_and, se_cmp, bo_var, bo_var]
    show ((D.isIn (dT b) (dRk s)).map D.bl).bind _ = _
    rw [isIn_rk]
    cases q : rk s b with
    | none => rfl
    | some z =>
      show (some (D.bl true)).bind _ = _
      rw [Option.bind_some, andF_bl, if_pos rfl, se_cmp, bo_sub, bo_sub, se_sub, se_sub, bo_var, se_var, se_var]
      show ((opSub (dRk s) (dT b)).bind fun y => (opSub (dRk s) (dT x)).bind fun z => (opC .lt y z).map D.bl) = _
      rw [get_rk S q, get_rk S e, Option.bind_some, Option.bind_some, opC_lt, dlt_nat]; rfl
  have hstep : ∀ {j : Nat} {kj : List Nat × Nat}, s.ks[j]? = some kj → ev G [.val (dSh s), .val (dT x), .val (dRk s), .val (.int j), .unk, .unk, .unk] (.comp (.call 73 [(.var 0), (.var 1), (.var 3), (.var 5)]) (.name 5) .seq [(.call 72 [(.var 0), (.var 1), (.var 3)])] [] [5]) = some (.lst ((beh s x kj).map dT)) := fun {j kj} hj => hbeh hj _ rfl rfl rfl (by simp)
  have hloop := forL_find (kl := [3, 4]) (step := fun d e => (bind (.name 3) d e).bind fun e' => exs G GI e' [.asg 4 (.comp (.call 73 [(.var 0), (.var 1), (.var 3), (.var 5)]) (.name 5) .seq [(.call 72 [(.var 0), (.var 1), (.var 3)])] [] [5]), .ifs (.val (.b1 .all (.comp (.and (.cmp .isin (.var 6) (.var 2)) (.cmp .lt (.sub (.var 2) (.var 6)) (.sub (.var 2) (.var 1)))) (.name 6) .seq [(.var 4)] [] [6]))) [.ret (.var 3)] []])
    (env := [.val (dSh s), .val (dT x), .val (dRk s), .unk, .unk, .unk, .unk]) (k := k) (e1 := [.val (dSh s), .val (dT x), .val (dRk s), .val (.int k), .val (.lst ((beh s x kd).map dT)), .unk, .unk]) (by
      rw [x_bindN, Option.bind_some]
      simp only [List.set_cons_succ, List.set_cons_zero]
      rw [exs_asg (hstep hk)]
      simp only [List.set_cons_succ, List.set_cons_zero]
      rw [exs_ifR (by rw [htest hk, hg]) (exs_ret (by rw [se_var]; rfl))]) ((List.range s.ks.length).drop (k + 1)) (List.range k) (fun j hj => by
      have hjk := List.mem_range.mp hj
      have hkj : s.ks[j]? = some (s.ks[j]'(by omega)) := List.getElem?_eq_getElem (by omega)
      refine ⟨[.val (dSh s), .val (dT x), .val (dRk s), .val (.int j), .val (.lst ((beh s x (s.ks[j]'(by omega))).map dT)), .unk, .unk], ?_, rfl⟩
      rw [x_bindN, Option.bind_some]
      simp only [List.set_cons_succ, List.set_cons_zero]
      rw [exs_asg (hstep hkj)]
      simp only [List.set_cons_succ, List.set_cons_zero]
      rw [exs_skip (by rw [htest hkj, hb j _ hjk hkj]), exs_nil])
  rw [← range_split hkl] at hloop
  rw [exs_forR (vs := [.int (s.ks.length : Nat)]) (by rw [se_cons, ev_nk rfl, se_nil]; rfl) (walk_r1m (by have := S.nk; omega)) hloop]
  rfl
theorem r86 (c : Nat) : run defs (c + 7) 86 [dT s.vs, dT s.caps, .tup (s.ks.map dKd)] = some (.tup ((leastV (rooms s)).map dT)) := by
  refine run_of (fn := f_least_caps) rfl rfl rfl ?_
  have h75 := r75 (c + 5) (caps := s.caps) S.c3 (by have := S.nc; have := S.nv; omega)
  have hlc := len_conts S
  have hnv := S.nv
  have h78 := fun (x : List Nat) (hx : leV x s.caps = true) => r78 (Sh_room S hx) c x
  have h83 := fun {l : List (List Nat)} {x : List Nat} hn h3 hl => r83 (c + 4) (l := l) (x := x) hn h3 hl
  have h79 := fun hl => r79 (c + 4) (l := rooms s) (n := s.vs.length) (fun x hx => Sh_len S (rooms_le S hx)) (by omega) hl
  generalize run defs (c + 6) = G at *
  generalize runI defs (c + 6) = GI
  show retD (exs G GI [.val (dT s.vs), .val (dT s.caps), .val (.tup (s.ks.map dKd)), .unk, .unk] (.asgO 3 _ :: .for_ _ _ _ _ _ :: .frz 3 :: [.ret _])) = _
  rw [exs_asgO (d := .lst (([] : List (List Nat)).map dT)) ev_lst0 rfl]
  simp only [List.set_cons_succ, List.set_cons_zero]
  have hloop := forL_foldA (kl := [4]) (step := fun d e => (bind (.name 4) d e).bind fun e' => exs G GI e' [.ifs (.and (.not (.val (.callB 83 [(.var 4), (.var 3)]))) (.val (.call 78 [(.tup [(.var 0), (.var 4), (.var 2)]), (.var 4)]))) [.app 3 (.var 4)] []]) dT
    (fun (good : List (List Nat)) => [.val (dT s.vs), .val (dT s.caps), .val (.tup (s.ks.map dKd)), .own (.lst (good.map dT)), .unk]) (roomG s) (fun j good => good.length ≤ j ∧ ∀ r ∈ good, leV r s.caps = true) (conts s.caps) 0 [] ⟨by simp, by simp⟩ (fun _ => rfl) (fun j x good hj hp => by
      rw [Nat.zero_add] at hp ⊢
      have hjl := (List.getElem?_eq_some_iff.mp hj).1
      have hx := mem_conts.mp (List.mem_of_getElem? hj)
      have hxl := Sh_len S hx
      have e83 := h83 (l := good) (x := x) (fun o ho => (Sh_len S (hp.2 o ho)).trans hxl.symm) (by omega) (by omega)
      have t1 : ts G [.val (dT s.vs), .val (dT s.caps), .val (.tup (s.ks.map dKd)), .own (.lst (good.map dT)), .val (dT x)] (.val (.callB 83 [(.var 4), (.var 3)])) = some (good.any fun o => leV o x) := by
        refine ts_val (x := .bl (good.any fun o => leV o x)) ?_ rfl
        have e1 : evB G [.val (dT s.vs), .val (dT s.caps), .val (.tup (s.ks.map dKd)), .own (.lst (good.map dT)), .val (dT x)] [(.var 4), (.var 3)] = some [dT x, .lst (good.map dT)] := by simp
        rw [bo_oth (by simp), ev, e1, Option.bind_some, e83]; rfl
      have t2 : ts G [.val (dT s.vs), .val (dT s.caps), .val (.tup (s.ks.map dKd)), .own (.lst (good.map dT)), .val (dT x)] (.val (.call 78 [(.tup [(.var 0), (.var 4), (.var 2)]), (.var 4)])) = some (rk ⟨s.vs, x, s.ks⟩ x).isNone :=
        ts_call' (ev_call (ds := [dSh ⟨s.vs, x, s.ks⟩, dT x]) (by rw [se_cons, ev_tup (xs := [dT s.vs, dT x, .tup (s.ks.map dKd)]) (by simp) (line_pos (by simp))]; simp) (h78 x hx))
      have t3 : ts G [.val (dT s.vs), .val (dT s.caps), .val (.tup (s.ks.map dKd)), .own (.lst (good.map dT)), .val (dT x)] (.and (.not (.val (.callB 83 [(.var 4), (.var 3)]))) (.val (.call 78 [(.tup [(.var 0), (.var 4), (.var 2)]), (.var 4)]))) = some (!(good.any fun o => leV o x) && (rk ⟨s.vs, x, s.ks⟩ x).isNone) := by
        rw [st_and, st_not, t1, t2]
        cases (good.any fun o => leV o x) <;> simp
      refine ⟨?_, [.val (dT s.vs), .val (dT s.caps), .val (.tup (s.ks.map dKd)), .own (.lst ((roomG s good x).map dT)), .val (dT x)], ?_, rfl⟩
      · unfold roomG
        split
        · refine ⟨by simp; omega, fun r hr => ?_⟩
          rcases List.mem_append.mp hr with hr | hr
          · exact hp.2 r hr
          · rw [List.mem_singleton.mp hr]; exact hx
        · exact ⟨by omega, hp.2⟩
      · rw [x_bindN, Option.bind_some]
        simp only [List.set_cons_succ, List.set_cons_zero]
        unfold roomG
        by_cases q : (!(good.any fun o => leV o x) && (rk ⟨s.vs, x, s.ks⟩ x).isNone) = true
        · rw [if_pos q, exs_ifT (env' := [.val (dT s.vs), .val (dT s.caps), .val (.tup (s.ks.map dKd)), .own (.lst ((good ++ [x]).map dT)), .val (dT x)]) (by rw [t3, q]) (by
            rw [exs_app (xs := good.map dT) (d := dT x) rfl (by rw [se_var]; rfl) (line_pos (by simp; omega)), List.map_append]; rfl), exs_nil]
        · rw [if_neg q, exs_skip (by rw [t3, Bool.eq_false_iff.mpr q]), exs_nil])
  have hP := hloop.2
  rw [Nat.zero_add] at hP
  rw [exs_for (vs := [.lst ((conts s.caps).map dT)]) (by rw [se_cons, ev_call (ds := [dT s.caps]) (by simp) h75, se_nil]; rfl) rfl hloop.1]
  rw [exs_frz (d := .lst ((rooms s).map dT)) rfl]
  simp only [List.set_cons_succ, List.set_cons_zero]
  rw [exs_ret (ev_call (ds := [.lst ((rooms s).map dT)]) (by rw [se_cons, se_var, se_nil]; rfl) (h79 (by unfold rooms; omega)))]; rfl
end
end Rx
end

section
set_option Elab.async false
set_option linter.all false
set_option maxRecDepth 100000
set_option maxHeartbeats 1000000
set_option autoImplicit false
/-! L73h: runs of the law's own helpers. -/
namespace Rx
theorem grow_one (rows : List (List Nat)) (x : List Nat) (cap : Nat) : grow (rows ++ [x]) cap = grow rows cap ++ (List.range (cap + 1)).map fun k => x ++ [k] := by
  unfold grow
  rw [List.flatMap_append]
  simp
theorem r88 (c : Nat) {caps : List Nat} (h3 : ∀ k ∈ caps, k ≤ 3) (hl : caps.length ≤ 3) : run defs (c + 1) 88 [dT caps] = some (.lst ((conts caps).map dT)) := by
  refine run_of (fn := f_law_contents) rfl rfl rfl ?_
  generalize run defs c = G
  generalize runI defs c = GI
  show retD (exs G GI [.val (dT caps), .unk, .unk, .unk, .unk, .unk] (.asg 1 _ :: .for_ _ _ _ _ _ :: [.ret _])) = _
  rw [exs_asg (d := .lst (([[]] : List (List Nat)).map dT)) (ev_lst (by rw [se_cons, ev_tup (xs := []) se_nil (line_pos (by simp)), se_nil]; rfl) (line_pos (by simp)))]
  simp only [List.set_cons_succ, List.set_cons_zero]
  have hloop := forL_foldA (kl := [2, 3, 4]) (step := fun d e => (bind (.name 2) d e).bind fun e' => exs G GI e' [.asgO 3 (.lst []), .for_ (.name 4) .seq [(.var 1)] [.ext 3 (.comp (.bin .add (.var 4) (.tup [(.var 5)])) (.name 5) .r1 [(.bin .add (.var 2) (.int 1))] [] [5])] [4], .frz 3, .asg 1 (.var 3)])
    (fun (k : Nat) => .int k) (fun (rows : List (List Nat)) => [.val (dT caps), .val (.lst (rows.map dT)), .unk, .unk, .unk, .unk]) grow (fun j rows => rows.length ≤ 4 ^ j ∧ ∀ r ∈ rows, r.length = j) caps 0 [[]] ⟨by simp, by simp⟩ (fun _ => rfl) (fun j cap rows hj hp => by
      rw [Nat.zero_add] at hp ⊢
      have hjl := (List.getElem?_eq_some_iff.mp hj).1
      have hc3 := h3 cap (List.mem_of_getElem? hj)
      have hp4 : 4 ^ j ≤ 4 ^ 2 := Nat.pow_le_pow_right (by omega) (by omega)
      have hG := len_grow rows cap
      have hGl : (grow rows cap).length ≤ 4 ^ (j + 1) := by rw [hG, Nat.pow_succ]; exact Nat.mul_le_mul hp.1 (by omega)
      refine ⟨⟨hGl, fun r hr => ?_⟩, [.val (dT caps), .val (.lst ((grow rows cap).map dT)), .val (.int cap), .val (.lst ((grow rows cap).map dT)), .unk, .unk], ?_, rfl⟩
      · obtain ⟨r0, q1, q2⟩ := List.mem_flatMap.mp hr
        obtain ⟨t, _, q3⟩ := List.mem_map.mp q2
        rw [← q3]
        simp [hp.2 r0 q1]
      · rw [x_bindN, Option.bind_some]
        simp only [List.set_cons_succ, List.set_cons_zero]
        rw [exs_asgO (d := .lst ((grow (rows.take 0) cap).map dT)) ev_lst0 rfl]
        simp only [List.set_cons_succ, List.set_cons_zero]
        have hin := forL_foldA (kl := [4]) (step := fun d e => (bind (.name 4) d e).bind fun e' => exs G GI e' [.ext 3 (.comp (.bin .add (.var 4) (.tup [(.var 5)])) (.name 5) .r1 [(.bin .add (.var 2) (.int 1))] [] [5])])
          dT (fun (i : Nat) => [.val (dT caps), .val (.lst (rows.map dT)), .val (.int cap), .own (.lst ((grow (rows.take i) cap).map dT)), .unk, .unk]) (fun i _ => i + 1) (fun i k => k = i) rows 0 0 rfl (fun _ => rfl) (fun i x i' hi hp2 => by
            rw [Nat.zero_add] at hp2 ⊢
            subst hp2
            have hil := (List.getElem?_eq_some_iff.mp hi).1
            have hxl := hp.2 x (List.mem_of_getElem? hi)
            refine ⟨rfl, [.val (dT caps), .val (.lst (rows.map dT)), .val (.int cap), .own (.lst ((grow (rows.take (i' + 1)) cap).map dT)), .val (dT x), .unk], ?_, rfl⟩
            rw [x_bindN, Option.bind_some]
            simp only [List.set_cons_succ, List.set_cons_zero]
            have hc := ev_compM (G := G) (env := [.val (dT caps), .val (.lst (rows.map dT)), .val (.int cap), .own (.lst ((grow (rows.take i') cap).map dT)), .val (dT x), .unk]) (e := .bin .add (.var 4) (.tup [(.var 5)])) (t := .name 5) (k := .r1) (es := [(.bin .add (.var 2) (.int 1))]) (own := [5]) (vs := [.int ((cap + 1 : Nat) : Int)]) (List.range (cap + 1)) (fun (k : Nat) => .int k) (fun k => dT (x ++ [k])) (by
              rw [sb_cons, bo_bin, ev_bin_of (x := .int cap) (y := .int (1 : Nat)) (by simp) (by simp) opB_addN, sb_nil]; rfl) (walk_r1m (by omega)) (line_pos (by simp; omega)) fun t ht => ⟨_, x_bindN, ev_addone (x := x) (t := t) (by simp) (by simp) (by omega)⟩
            have hgl := len_grow (rows.take i') cap
            rw [List.length_take, Nat.min_eq_left (by omega)] at hgl
            have hb : i' * (cap + 1) ≤ 16 * 4 := Nat.mul_le_mul (by omega) (by omega)
            rw [exs_ext (xs := (grow (rows.take i') cap).map dT) rfl hc (line_pos (by simp only [List.length_map, List.length_range]; omega))]
            simp only [List.set_cons_succ, List.set_cons_zero]
            rw [exs_nil, take_one hi, grow_one, List.map_append, List.map_map]; rfl)
        have hf := hin.2
        rw [Nat.zero_add] at hf
        have hin1 := hin.1
        rw [hf, List.take_of_length_le (Nat.le_refl _)] at hin1
        rw [exs_for (vs := [.lst (rows.map dT)]) (by simp) rfl hin1]
        rw [exs_frz (d := .lst ((grow rows cap).map dT)) rfl]
        simp only [List.set_cons_succ, List.set_cons_zero]
        rw [exs_asg (d := .lst ((grow rows cap).map dT)) (by rw [se_var]; rfl)]
        simp only [List.set_cons_succ, List.set_cons_zero]
        rw [exs_nil])
  rw [exs_for (vs := [dT caps]) (by simp) rfl hloop.1]
  rw [exs_ret (d := .lst ((conts caps).map dT)) (by rw [se_var]; rfl)]; rfl
theorem ev_at2 {G : Nat → List D → Option D} {env : Env} {i j k : Nat} {l : List Nat} (he : env.bor i = some (dT l)) (h : env.val k = some (.int j)) (hj : j < l.length) : ev G env (.sub (.var i) (.var k)) = some (.int (gt l j : Nat)) := by
  rw [se_sub, bo_var, he, Option.bind_some, se_var, h, Option.bind_some, opSub_tup, dV_get hj]
theorem ev_lenV {G : Nat → List D → Option D} {env : Env} {i : Nat} {l : List Nat} (he : env.bor i = some (dT l)) : ev G env (.b1 .len (.var i)) = some (.int (l.length : Nat)) := ev_b1 (x := dT l) (by rw [bo_var]; exact he) (by rw [opU_lenT, dV_len])
theorem r89 (c : Nat) {l : List (List Nat)} {x : List Nat} (hn : ∀ o ∈ l, o.length = x.length) (h3 : x.length ≤ 1000) (hl : l.length ≤ 1000) : run defs (c + 1) 89 [dT x, .tup (l.map dT)] = some (.bl (l.any fun o => leV o x)) := by
  refine run_of (fn := f_law_above) rfl rfl rfl ?_
  generalize run defs c = G
  generalize runI defs c = GI
  show retD (exs G GI [.val (dT x), .val (.tup (l.map dT)), .unk, .unk] [.ret _]) = _
  have hc := ev_compM (G := G) (env := [.val (dT x), .val (.tup (l.map dT)), .unk, .unk]) (e := .b1 .all (.comp (.cmp .ge (.sub (.var 0) (.var 3)) (.sub (.var 2) (.var 3))) (.name 3) .r1 [(.b1 .len (.var 0))] [] [3])) (t := .name 2) (k := .seq) (es := [.var 1]) (own := [2]) (vs := [.tup (l.map dT)]) l dT (fun o => .bl (leV o x)) (by simp) rfl (line_pos (by omega)) fun o ho => ⟨_, x_bindN, by
    have hol := hn o ho
    simp only [x_kill1, x_kill0, List.set_cons_succ, List.set_cons_zero]
    rw [← leV_all hol, hol]
    refine ev_b1c (x := .lst ((List.range x.length).map fun k => .bl (decide (gt o k ≤ gt x k)))) ?_ (all_bl _ _)
    refine ev_compM (List.range x.length) (fun (k : Nat) => .int k) (fun k => .bl (decide (gt o k ≤ gt x k))) (vs := [.int (x.length : Nat)]) (by rw [sb_cons, bo_b1, ev_lenV rfl, sb_nil]; rfl) (walk_r1m (by omega)) (line_pos (by simp; omega)) fun k hk => ⟨_, x_bindN, ?_⟩
    have hk := List.mem_range.mp hk
    simp only [x_kill1, x_kill0, List.set_cons_succ, List.set_cons_zero]
    rw [se_cmp, bo_sub, bo_sub, ev_at2 (l := x) (j := k) rfl rfl hk, ev_at2 (l := o) (j := k) rfl rfl (by omega)]
    show (opC .ge (.int (gt x k : Nat)) (.int (gt o k : Nat))).map D.bl = _
    rw [opC_ge, dle_nat]; rfl⟩
  rw [exs_ret (ev_b1c hc (any_bl _ _))]; rfl
theorem r90 (c : Nat) {l : List (List Nat)} {caps : List Nat} (hn : ∀ o ∈ l, leV o caps = true) (h3 : caps.length ≤ 1000) : run defs (c + 2) 90 [.tup (l.map dT), dT caps] = some (.bl true) := by
  refine run_of (fn := f_law_are_rows) rfl rfl rfl ?_
  have h9 := fun i => run_is_int (defs := defs) rfl c i
  generalize run defs (c + 1) = G at *
  generalize runI defs (c + 1) = GI
  show retD (exs G GI [.val (.tup (l.map dT)), .val (dT caps), .unk, .unk, .unk] (.ifs _ _ _ :: .for_ _ _ _ _ _ :: [.ret _])) = _
  rw [exs_skip (ts_not (c := true) (ts_val (x := .bl true) (by rw [bo_b1, ev_b1 (x := .tup (l.map dT)) (z := .bl true) (by rw [bo_var]; rfl) rfl]) rfl) rfl)]
  have hloop := forL_same (kl := [2]) (env := [.val (.tup (l.map dT)), .val (dT caps), .unk, .unk, .unk]) (step := fun d e => (bind (.name 2) d e).bind fun e' => exs G GI e' [.ifs (.or (.not (.val (.b1 .isTup (.var 2)))) (.or (.val (.cmp .ne (.b1 .len (.var 2)) (.b1 .len (.var 1)))) (.not (.val (.b1 .all (.comp (.call 9 [(.var 4)]) (.name 4) .seq [(.var 2)] [] [4])))))) [.ret (.bl false)] [], .ifs (.not (.val (.b1 .all (.comp (.chn .le .le (.int 0) (.sub (.var 2) (.var 3)) (.sub (.var 1) (.var 3))) (.name 3) .r1 [(.b1 .len (.var 1))] [] [3])))) [.ret (.bl false)] []]) rfl (xs := l.map dT) (fun d hd => by
    obtain ⟨o, ho, rfl⟩ := List.mem_map.mp hd
    have hle := hn o ho
    have hol := leV_len hle
    refine ⟨[.val (.tup (l.map dT)), .val (dT caps), .val (dT o), .unk, .unk], ?_, rfl⟩
    rw [x_bindN, Option.bind_some]
    simp only [List.set_cons_succ, List.set_cons_zero]
    have hc1 := ev_compM (G := G) (env := [.val (.tup (l.map dT)), .val (dT caps), .val (dT o), .unk, .unk]) (e := .call 9 [(.var 4)]) (t := .name 4) (k := .seq) (es := [.var 2]) (own := [4]) (vs := [dT o]) o (fun (k : Nat) => .int k) (fun k => .bl true) (by simp) rfl (line_pos (by omega)) (fun k hk => ⟨_, x_bindN, ev_call (ds := [.int k]) (by rw [se_cons, se_var, se_nil]; rfl) (h9 _)⟩)
    rw [exs_skip (ts_orF (ts_not (c := true) (ts_val (x := .bl true) (by rw [bo_b1, ev_b1 (x := dT o) (z := .bl true) (by rw [bo_var]; rfl) rfl]) rfl) rfl) (ts_orF (ts_val (x := .bl false) (by
      rw [bo_cmp, se_cmp, bo_b1, ev_lenV (l := o) rfl, bo_b1, ev_lenV (l := caps) rfl, Option.bind_some, Option.bind_some, hol, opC_ne]; simp) rfl) (ts_not (c := true) (ts_val (x := .bl true) (by rw [bo_b1, ev_b1c hc1 (all_map _ _ fun _ _ => rfl)]) rfl) rfl)))]
    have hc2 := ev_compM (G := G) (env := [.val (.tup (l.map dT)), .val (dT caps), .val (dT o), .unk, .unk]) (e := .chn .le .le (.int 0) (.sub (.var 2) (.var 3)) (.sub (.var 1) (.var 3))) (t := .name 3) (k := .r1) (es := [.b1 .len (.var 1)]) (own := [3]) (vs := [.int (caps.length : Nat)]) (List.range caps.length) (fun (k : Nat) => .int k) (fun k => .bl true) (by rw [sb_cons, bo_b1, ev_lenV rfl, sb_nil]; rfl) (walk_r1m (by omega)) (line_pos (by simp; omega)) (fun k hk => ⟨_, x_bindN, by
      have hk := List.mem_range.mp hk
      have hat := leV_at hle k
      simp only [x_kill1, x_kill0, List.set_cons_succ, List.set_cons_zero]
      rw [se_chn, se_int, ev_at2 (l := o) (j := k) rfl rfl (by omega), ev_at2 (l := caps) (j := k) rfl rfl hk, Option.bind_some, Option.bind_some, opC_le, Option.bind_some, decide_eq_true (by omega)]
      simp only [if_true, Option.bind_some]
      rw [opC_le, decide_eq_true (by omega)]; rfl⟩)
    rw [exs_skip (ts_not (c := true) (ts_val (x := .bl true) (by rw [bo_b1, ev_b1c hc2 (all_map _ _ fun _ _ => rfl)]) rfl) rfl), exs_nil])
  rw [exs_for (vs := [.tup (l.map dT)]) (by simp) rfl hloop]
  rw [exs_ret (d := .bl true) (by rw [se_bl])]; rfl
section
variable {s : Shop} (S : Sh s)
include S
omit S in
theorem ints_oD : ∀ l : List (Option Nat), (∀ o ∈ l, o.isSome = true) → l.map oD = dV (l.map fun o => o.getD 0)
  | [], _ => rfl
  | o :: l, h => by
    obtain ⟨r, rfl⟩ := Option.isSome_iff_exists.mp (h o (List.mem_cons_self ..))
    rw [List.map_cons, ints_oD l fun o ho => h o (List.mem_cons_of_mem _ ho)]; rfl
noncomputable abbrev dLR (s : Shop) : D := .dic true ((conts s.caps).map fun c => (dT c, oD (rk s c)))
theorem get_LR {x : List Nat} (h : leV x s.caps = true) : D.get ((conts s.caps).map fun c => (dT c, oD (rk s c))) (dT x) = some (oD (rk s x)) := by
  have := get_map (fun c => oD (rk s c)) (conts s.caps) x
  rw [if_pos (mem_conts.mpr h)] at this
  exact this
theorem sub_LR {x : List Nat} (h : leV x s.caps = true) : opSub (dLR s) (dT x) = some (oD (rk s x)) := by
  show (if isKey true (dT x) = true then D.get ((conts s.caps).map fun c => (dT c, oD (rk s c))) (dT x) else none) = _
  rw [if_pos (key_dT x), get_LR S h]
theorem in_LR {x : List Nat} (h : leV x s.caps = true) : D.isIn (dT x) (dLR s) = some true := by
  show (if isKey true (dT x) = true then some (D.get ((conts s.caps).map fun c => (dT c, oD (rk s c))) (dT x)).isSome else none) = _
  rw [if_pos (key_dT x), get_LR S h]; rfl
theorem r91 (c : Nat) {x : List Nat} (hx : leV x s.caps = true) {k : Nat} {kd : List Nat × Nat} (hk : s.ks[k]? = some kd) : run defs (c + 4) 91 [dSh s, dLR s, dT x, .int k] = some (.lst (((beh s x kd).map (rk s)).map oD)) := by
  refine run_of (fn := f_law_behind) rfl rfl rfl ?_
  have hm := List.mem_of_getElem? hk
  have h72 := r72 S c hk hx
  have h74 := fun {ch : List Nat} (h : ch ∈ chsS s x kd) => r74 S c hk hx h
  have hlen := len_chsS S hx hm
  generalize run defs (c + 3) = G at *
  generalize runI defs (c + 3) = GI
  show retD (exs G GI [.val (dSh s), .val (dLR s), .val (dT x), .val (.int k), .unk, .unk, .unk] (.asgO 4 _ :: .for_ _ _ _ _ _ :: .frz 4 :: [.ret _])) = _
  generalize hF : (fun ch => oD (rk s (bh s.caps (wg x kd.1) ch))) = F
  rw [exs_asgO (d := .lst (((chsS s x kd).take 0).map F)) ev_lst0 rfl]
  simp only [List.set_cons_succ, List.set_cons_zero]
  have hloop := forL_foldA (kl := [5, 6]) (step := fun d e => (bind (.name 5) d e).bind fun e' => exs G GI e' [.asg 6 (.call 74 [(.var 0), (.var 2), (.var 3), (.var 5)]), .ifs (.val (.cmp .notin (.var 6) (.var 1))) [.ret .non] [], .app 4 (.sub (.var 1) (.var 6))])
    dT (fun (j : Nat) => [.val (dSh s), .val (dLR s), .val (dT x), .val (.int k), .own (.lst (((chsS s x kd).take j).map F)), .unk, .unk]) (fun j _ => j + 1) (fun i j => j = i) (chsS s x kd) 0 0 rfl (fun _ => rfl) (fun j ch j' hj hp => by
      rw [Nat.zero_add] at hp ⊢
      subst hp
      have hch := List.mem_of_getElem? hj
      have hjl := (List.getElem?_eq_some_iff.mp hj).1
      have hb := beh_in S hx hm (b := bh s.caps (wg x kd.1) ch) (List.mem_map.mpr ⟨ch, hch, rfl⟩)
      refine ⟨rfl, [.val (dSh s), .val (dLR s), .val (dT x), .val (.int k), .own (.lst (((chsS s x kd).take (j' + 1)).map F)), .val (dT ch), .val (dT (bh s.caps (wg x kd.1) ch))], ?_, rfl⟩
      rw [x_bindN, Option.bind_some]
      simp only [List.set_cons_succ, List.set_cons_zero]
      rw [exs_asg (ev_call (ds := [dSh s, dT x, .int k, dT ch]) (by simp) (h74 hch))]
      simp only [List.set_cons_succ, List.set_cons_zero]
      rw [exs_skip (ts_val (x := .bl false) (by
        rw [bo_cmp, se_cmp, bo_var, bo_var]
        show ((D.isIn (dT (bh s.caps (wg x kd.1) ch)) (dLR s)).map not).map D.bl = _
        rw [in_LR S hb]; rfl) rfl)]
      rw [exs_app (xs := ((chsS s x kd).take j').map F) (d := F ch) rfl (by
        rw [se_sub, bo_var, se_var]
        show opSub (dLR s) (dT (bh s.caps (wg x kd.1) ch)) = _
        rw [sub_LR S hb, ← hF]) (line_pos (by rw [List.length_map, List.length_take]; omega))]
      simp only [List.set_cons_succ, List.set_cons_zero]
      rw [exs_nil, take_one hj, List.map_append]; rfl)
  have hf := hloop.2
  rw [Nat.zero_add] at hf
  have hl1 := hloop.1
  rw [hf, List.take_of_length_le (Nat.le_refl _)] at hl1
  rw [exs_for (vs := [.tup ((chsS s x kd).map dT)]) (by rw [se_cons, ev_call (ds := [dSh s, dT x, .int k]) (by simp) h72, se_nil]; rfl) rfl hl1]
  rw [exs_frz (d := .lst ((chsS s x kd).map F)) rfl]
  simp only [List.set_cons_succ, List.set_cons_zero]
  rw [exs_ret (d := .lst ((chsS s x kd).map F)) (by rw [se_var]; rfl)]
  unfold beh
  rw [List.map_map, List.map_map, ← hF]; rfl
omit S in
theorem r92 (c : Nat) {l : List (Option Nat)} {r : Nat} (hl : l.length ≤ 1000) : run defs (c + 1) 92 [.lst (l.map oD), .int r] = some (.bl (l.all (lessO r))) := by
  refine run_of (fn := f_law_less) rfl rfl rfl ?_
  generalize run defs c = G
  generalize runI defs c = GI
  show retD (exs G GI [.val (.lst (l.map oD)), .val (.int r), .unk] [.ret _]) = _
  have hc := ev_compM (G := G) (env := [.val (.lst (l.map oD)), .val (.int r), .unk]) (e := .and (.cmp .isnt (.var 2) .non) (.cmp .lt (.var 2) (.var 1))) (t := .name 2) (k := .seq) (es := [.var 0]) (own := [2]) (vs := [.lst (l.map oD)]) l oD (fun o => .bl (lessO r o)) (by simp) rfl (line_pos (by omega)) fun o ho => ⟨_, x_bindN, by
    simp only [x_kill1, x_kill0, List.set_cons_succ, List.set_cons_zero]
    cases o with
    | none => rw [se_and, se_cmp]; simp [oD, lessO]
    | some z =>
      have e1 : ev G [.val (.lst (l.map oD)), .val (.int r), .val (oD (some z))] (.cmp .isnt (.var 2) .non) = some (.bl true) := by rw [se_cmp]; simp [oD]
      rw [se_and, e1, Option.bind_some, andF_bl, if_pos rfl, se_cmp, bo_var, bo_var]
      show (opC .lt (.int (z : Nat)) (.int (r : Nat))).map D.bl = _
      rw [opC_lt, dlt_nat]; rfl⟩
  rw [exs_ret (ev_b1c hc (all_bl _ _))]; rfl
end
end Rx
end

section
set_option Elab.async false
set_option linter.all false
set_option maxRecDepth 100000
set_option maxHeartbeats 1000000
set_option autoImplicit false
/-! L73i: the run of law_stands. -/
namespace Rx
theorem fold_mx : ∀ (ns : List Nat) (a m : Nat), a ≤ m → (∀ x ∈ ns, x ≤ m) → (a = m ∨ m ∈ ns) → (ns.map fun (k : Nat) => (k : Int)).foldl (fun m x => if m < x then x else m) (a : Int) = (m : Int)
  | [], a, m, _, _, h => by
    rcases h with h | h
    · rw [h]; rfl
    · cases h
  | x :: ns, a, m, ha, hb, h => by
    rw [List.map_cons, List.foldl_cons]
    have hx := hb x (List.mem_cons_self ..)
    have hb' : ∀ y ∈ ns, y ≤ m := fun y hy => hb y (List.mem_cons_of_mem _ hy)
    by_cases q : (a : Int) < (x : Int)
    · rw [if_pos q]
      refine fold_mx ns x m hx hb' ?_
      rcases h with h | h
      · omega
      · rcases List.mem_cons.mp h with h | h
        · exact .inl h.symm
        · exact .inr h
    · rw [if_neg q]
      refine fold_mx ns a m ha hb' ?_
      rcases h with h | h
      · exact .inl h
      · rcases List.mem_cons.mp h with h | h
        · exact .inl (by omega)
        · exact .inr h
theorem max_is {ns : List Nat} {m : Nat} (h : m ∈ ns) (hb : ∀ x ∈ ns, x ≤ m) : opU .max (.lst (dV ns)) = some (.int (m : Nat)) := by
  cases ns with
  | nil => cases h
  | cons a ns =>
    show ((D.ints (dV (a :: ns))).bind fun ns => match ns with | [] => none | n :: ns => some (D.int (ns.foldl (fun m x => if m < x then x else m) n))) = _
    rw [ints_N, Option.bind_some, List.map_cons]
    show some (D.int ((ns.map fun (k : Nat) => (k : Int)).foldl (fun m x => if m < x then x else m) (a : Int))) = _
    rw [fold_mx ns a m (hb a (List.mem_cons_self ..)) (fun x hx => hb x (List.mem_cons_of_mem _ hx)) (by
      rcases List.mem_cons.mp h with h | h
      · exact .inl h.symm
      · exact .inr h)]
theorem eq_bl (a b : Bool) : opC .eq (.bl a) (.bl b) = some (a == b) := by cases a <;> cases b <;> rfl
theorem ne_bl (a b : Bool) : opC .ne (.bl a) (.bl b) = some (!(a == b)) := by cases a <;> cases b <;> rfl
theorem plain_oD : ∀ l : List (Option Nat), D.plainL (l.map oD) = true
  | [] => rfl
  | none :: l => plain_oD l
  | some r :: l => plain_oD l
theorem depth_oD : ∀ l : List (Option Nat), D.depthL (l.map oD) = 0
  | [] => rfl
  | none :: l => by show max 0 (D.depthL (l.map oD)) = 0; rw [depth_oD l]; rfl
  | some r :: l => by show max 0 (D.depthL (l.map oD)) = 0; rw [depth_oD l]; rfl
theorem isIn_gen {x : D} {ys : List D} (h1 : D.plain x = true) (h2 : D.plainL ys = true) (h3 : D.depth x < 60) (h4 : D.depthL ys < 60) : D.isIn x (.lst ys) = some (ys.any fun z => D.eqb z x) := by
  show (if (D.plain x && D.plainL ys && decide (D.depth x < 60) && decide (D.depthL ys < 60)) = true then some (ys.any fun z => D.eqb z x) else none) = _
  rw [h1, h2, decide_eq_true h3, decide_eq_true h4]; rfl
theorem isIn_nonO (l : List (Option Nat)) : D.isIn .non (.lst (l.map oD)) = some (l.any fun o => o.isNone) := by
  rw [isIn_gen (x := .non) rfl (plain_oD l) (show (0 : Nat) < 60 by decide) (by rw [depth_oD]; decide), List.any_map]
  congr 2
  funext o
  cases o <;> rfl
theorem isIn_intO (k : Nat) (l : List (Option Nat)) : D.isIn (.int (k : Nat)) (.lst (l.map oD)) = some (l.any fun o => decide (o = some k)) := by
  rw [isIn_gen (x := .int (k : Nat)) rfl (plain_oD l) (show (0 : Nat) < 60 by decide) (by rw [depth_oD]; decide), List.any_map]
  congr 2
  funext o
  cases o with
  | none => rfl
  | some r =>
    show decide ((r : Int) = (k : Int)) = decide (some r = some k)
    rw [deq_nat]
    by_cases q : r = k
    · rw [decide_eq_true q, decide_eq_true (by rw [q])]
    · rw [decide_eq_false q, decide_eq_false (fun z => q (Option.some.inj z))]
theorem plain_rows : ∀ rows : List (List (Option Nat)), D.plainL (rows.map fun l => D.lst (l.map oD)) = true
  | [] => rfl
  | l :: rows => by
    show (D.plainL (l.map oD) && D.plainL (rows.map fun l => D.lst (l.map oD))) = true
    rw [plain_oD, plain_rows rows]; rfl
theorem depth_rows : ∀ rows : List (List (Option Nat)), D.depthL (rows.map fun l => D.lst (l.map oD)) ≤ 1
  | [] => Nat.zero_le _
  | l :: rows => by
    show max (D.depthL (l.map oD) + 1) (D.depthL (rows.map fun l => D.lst (l.map oD))) ≤ 1
    have := depth_rows rows
    rw [depth_oD]
    omega
theorem isIn_nonR (rows : List (List (Option Nat))) : D.isIn .non (.lst (rows.map fun l => D.lst (l.map oD))) = some false := by
  have h := depth_rows rows
  rw [isIn_gen (x := .non) rfl (plain_rows rows) (show (0 : Nat) < 60 by decide) (by omega), List.any_map]
  congr 1
  rw [List.any_eq_false]
  intro l _
  exact Bool.false_ne_true
theorem isNon_oD (o : Option Nat) : D.isNon (oD o) = o.isNone := by cases o <;> rfl
theorem bl_is {o : Option Nat} {G : Nat → List D → Option D} {env : Env} {a : E} (h : bo env a (ev G env a) = some (oD o)) : ev G env (.cmp .is a .non) = some (.bl o.isNone) := by
  rw [se_cmp, h, Option.bind_some, bo_non, se_non, Option.bind_some, opC_is, isNon_oD]; rfl
theorem bl_isnt {o : Option Nat} {G : Nat → List D → Option D} {env : Env} {a : E} (h : bo env a (ev G env a) = some (oD o)) : ev G env (.cmp .isnt a .non) = some (.bl (!o.isNone)) := by
  rw [se_cmp, h, Option.bind_some, bo_non, se_non, Option.bind_some, opC_isnt, isNon_oD]; rfl
section
variable {s : Shop} (S : Sh s)
include S
noncomputable abbrev rowL (s : Shop) (x : List Nat) (k : Nat) : List (Option Nat) := (beh s x (s.ks.getD k ([], 0))).map (rk s)
omit S in
theorem ks_at {k : Nat} (h : k < s.ks.length) : s.ks[k]? = some (s.ks.getD k ([], 0)) := by
  rw [List.getD_eq_getElem?_getD, List.getElem?_eq_getElem h]; rfl
theorem r93 (c : Nat) {x : List Nat} (hx : leV x s.caps = true) : run defs (c + 7) 93 [dSh s, dLR s, dT x] = some (.bl true) := by
  refine run_of (fn := f_law_stands) rfl rfl rfl ?_
  have hnk := S.nk
  have hlr := sub_LR S hx
  have h78 := r78 S c x
  have h10 := fun b : Bool => like_self (defs := defs) rfl rfl (c + 4) 0 (.bl b) rfl (Nat.le_refl _)
  have h9 := fun i => run_is_int (defs := defs) rfl (c + 5) i
  have h91 := fun {k : Nat} {kd : List Nat × Nat} (h : s.ks[k]? = some kd) => r91 S (c + 2) hx h
  have h92 := fun {l : List (Option Nat)} {r : Nat} (hl : l.length ≤ 1000) => r92 (c + 5) (l := l) (r := r) hl
  have hmem : ∀ k, k < s.ks.length → s.ks.getD k ([], 0) ∈ s.ks := fun k hk => List.mem_of_getElem? (ks_at hk)
  have hrl : ∀ k, k < s.ks.length → (rowL s x k).length ≤ 216 := fun k hk => by
    rw [List.length_map]; exact len_beh S hx (hmem k hk)
  have h85n := fun e => r85n S c (x := x) e
  have h85s := fun {r k : Nat} e {kd : List Nat × Nat} hk hg hb => r85s S c hx (r := r) (k := k) e (kd := kd) hk hg hb
  generalize run defs (c + 6) = G at *
  generalize runI defs (c + 6) = GI
  -- the rows
  have hrows : ∀ c3 c4 : D, ev G [.val (dSh s), .val (dLR s), .val (dT x), .val c3, .val c4, .unk, .unk, .unk] (.comp (.call 91 [(.var 0), (.var 1), (.var 2), (.var 6)]) (.name 6) .r1 [(.b1 .len (.sub (.var 0) (.int 2)))] [] [6]) = some (.lst (((List.range s.ks.length).map (rowL s x)).map fun l => .lst (l.map oD))) := fun c3 c4 => by
    rw [List.map_map]
    refine ev_compM (List.range s.ks.length) (fun (k : Nat) => .int k) (fun k => .lst ((rowL s x k).map oD)) (vs := [.int (s.ks.length : Nat)]) (by rw [sb_cons, bo_b1, ev_nk rfl, sb_nil]; rfl) (walk_r1m (by omega)) (line_pos (by simp; omega)) fun k hk => ⟨_, x_bindN, ?_⟩
    have hk := List.mem_range.mp hk
    exact ev_call (ds := [dSh s, dLR s, dT x, .int k]) (by simp) (h91 (ks_at hk))
  have hlike : ∀ c4 c5 : D, ts G [.val (dSh s), .val (dLR s), .val (dT x), .val (oD (rk s x)), .val c4, .val c5, .unk, .unk] (.not (.val (.call 10 [(.call 78 [(.var 0), (.var 2)]), (.cmp .is (.var 3) .non)]))) = some false := fun c4 c5 =>
    ts_not (c := true) (ts_call' (ev_call (ds := [.bl (rk s x).isNone, .bl (rk s x).isNone]) (by
      rw [se_cons, ev_call (ds := [dSh s, dT x]) (by simp) h78, se_cons, bl_is (o := rk s x) (by rw [bo_var]; rfl), se_nil]; rfl) (h10 _))) rfl
  have hnon : ∀ c3 c4 : D, ts G [.val (dSh s), .val (dLR s), .val (dT x), .val c3, .val c4, .val (.lst (((List.range s.ks.length).map (rowL s x)).map fun l => .lst (l.map oD))), .unk, .unk] (.val (.cmp .isin .non (.var 5))) = some false := fun c3 c4 => ts_val (x := .bl false) (by
    rw [bo_cmp, se_cmp, bo_non, se_non, bo_var]
    show (D.isIn .non (.lst (((List.range s.ks.length).map (rowL s x)).map fun l => .lst (l.map oD)))).map D.bl = _
    rw [isIn_nonR]; rfl) rfl
  show retD (exs G GI [.val (dSh s), .val (dLR s), .val (dT x), .unk, .unk, .unk, .unk, .unk] (.asgP _ _ :: .asg 5 _ :: .ifs _ _ _ :: .ifs _ _ _ :: .ifs _ _ _ :: .ifs _ _ _ :: [.ret _])) = _
  have e3 : ∀ c3 c4 c5 c6 c7 : Cell, ev G [.val (dSh s), .val (dLR s), .val (dT x), c3, c4, c5, c6, c7] (.sub (.var 1) (.var 2)) = some (oD (rk s x)) := fun c3 c4 c5 c6 c7 => by
    rw [se_sub, bo_var, se_var]
    show opSub (dLR s) (dT x) = _
    exact hlr
  cases hrk : rk s x with
  | none =>
    have hb := h85n hrk
    rw [hrk] at e3 hlike
    rw [exs_asgP (ds := [oD none, .non]) (by rw [se_cons, e3, se_cons, ev_call (ds := [dSh s, dT x]) (by simp) hb, se_nil]; rfl) (by simp; rfl)]
    rw [exs_asg (hrows _ _)]
    simp only [List.set_cons_succ, List.set_cons_zero]
    rw [exs_skip (ts_orF (hnon _ _) (hlike _ _))]
    have hc : ev G [.val (dSh s), .val (dLR s), .val (dT x), .val (oD none), .val .non, .val (.lst (((List.range s.ks.length).map (rowL s x)).map fun l => .lst (l.map oD))), .unk, .unk] (.comp (.cmp .isin .non (.var 7)) (.name 7) .seq [(.var 5)] [] [7]) = some (.lst (((List.range s.ks.length).map (rowL s x)).map fun l => .bl (l.any fun o => o.isNone))) := by
      refine ev_compM ((List.range s.ks.length).map (rowL s x)) (fun l => .lst (l.map oD)) (fun l => .bl (l.any fun o => o.isNone)) (vs := [.lst (((List.range s.ks.length).map (rowL s x)).map fun l => .lst (l.map oD))]) (by rw [sb_cons, bo_var, sb_nil]; rfl) rfl (line_pos (by simp; omega)) fun l hl => ⟨_, x_bindN, ?_⟩
      simp only [x_kill1, x_kill0, List.set_cons_succ, List.set_cons_zero]
      rw [se_cmp, bo_non, se_non, bo_var]
      show (D.isIn .non (.lst (l.map oD))).map D.bl = _
      rw [isIn_nonO]; rfl
    have hall : ((List.range s.ks.length).map (rowL s x)).all (fun l => l.any fun o => o.isNone) = true := by
      rw [List.all_eq_true]
      intro l hl
      obtain ⟨k, hk, rfl⟩ := List.mem_map.mp hl
      obtain ⟨b, h1, h2⟩ := none_in S hx hrk (hmem k (List.mem_range.mp hk))
      exact List.any_eq_true.mpr ⟨none, List.mem_map.mpr ⟨b, h1, h2⟩, rfl⟩
    rw [exs_ifR (d := .bl true) (ts_val (x := .bl true) (by rw [bo_cmp, bl_is (o := none) (by rw [bo_var]; rfl)]; rfl) rfl) (exs_ret (by
      rw [se_and, bl_is (o := none) (by rw [bo_var]; rfl), Option.bind_some]
      show andF _ (.bl true) = _
      rw [andF_bl, if_pos rfl, ev_b1c hc (all_bl _ _), hall]))]
    rfl
  | some r =>
    obtain ⟨q1, q2, q3, q4⟩ := rk_some S hx hrk
    obtain ⟨kd0, g1, g2⟩ := good_ex S hx hrk
    obtain ⟨i0, hi0, hkd0⟩ := List.mem_iff_getElem.mp g1
    obtain ⟨k, hk1, hk2, hk3⟩ := first_of (fun k => k < s.ks.length ∧ goodK s x r (s.ks.getD k ([], 0)) = true) s.ks.length ⟨i0, by omega, hi0, by
      rw [List.getD_eq_getElem?_getD, List.getElem?_eq_getElem hi0, Option.getD_some, hkd0]; exact g2⟩
    obtain ⟨hkl, hgood⟩ := hk2
    have hkm := hmem k hkl
    have hb := h85s hrk (ks_at hkl) hgood (fun j kj hj hkj => by
      have := hk3 j hj
      rw [ks_at (by omega)] at hkj
      cases hkj
      exact Bool.eq_false_iff.mpr fun z => this ⟨by omega, z⟩)
    have hone := good_one S hx hrk hkm hgood
    have hmax := good_max S hx hrk hkm hgood
    have hgall : (rowL s x k).all (lessO r) = true := by
      rw [List.all_map]; exact hgood
    rw [hrk] at e3 hlike
    rw [exs_asgP (ds := [oD (some r), .int (k : Nat)]) (by rw [se_cons, e3, se_cons, ev_call (ds := [dSh s, dT x]) (by simp) hb, se_nil]; rfl) (by simp; rfl)]
    rw [exs_asg (hrows _ _)]
    simp only [List.set_cons_succ, List.set_cons_zero]
    rw [exs_skip (ts_orF (hnon _ _) (hlike _ _))]
    rw [exs_skip (ts_val (x := .bl false) (by rw [bo_cmp, bl_is (o := some r) (by rw [bo_var]; rfl)]; rfl) rfl)]
    generalize hE : ([.val (dSh s), .val (dLR s), .val (dT x), .val (oD (some r)), .val (.int (k : Nat)), .val (.lst (((List.range s.ks.length).map (rowL s x)).map fun l => .lst (l.map oD))), .unk, .unk] : Env) = E0
    have v3 : Env.val E0 3 = some (.int (r : Nat)) := by rw [← hE]; rfl
    have b3 : Env.bor E0 3 = some (.int (r : Nat)) := by rw [← hE]; rfl
    have v4 : Env.val E0 4 = some (.int (k : Nat)) := by rw [← hE]; rfl
    have hat : ∀ {j : Nat}, j < s.ks.length → atI (((List.range s.ks.length).map (rowL s x)).map fun l => .lst (l.map oD)) (j : Nat) = some (.lst ((rowL s x j).map oD)) := fun {j} hj => atI_nat (by rw [List.getElem?_map, List.getElem?_map, List.getElem?_range hj]; rfl)
    have e54 : ev G E0 (.sub (.var 5) (.var 4)) = some (.lst ((rowL s x k).map oD)) := by
      rw [se_sub, bo_var, se_var, v4, ← hE]
      exact hat hkl
    have elen : ev G E0 (.b1 .len (.sub (.var 5) (.var 4))) = some (.int ((beh s x (s.ks.getD k ([], 0))).length : Nat)) := ev_b1 (x := .lst ((rowL s x k).map oD)) (by rw [bo_sub, e54]) (by rw [opU_lenL, List.length_map, List.length_map])
    have elen5 : ev G E0 (.b1 .len (.var 5)) = some (.int (s.ks.length : Nat)) := by
      refine ev_b1 (x := .lst (((List.range s.ks.length).map (rowL s x)).map fun l => .lst (l.map oD))) (by rw [bo_var, ← hE]; rfl) ?_
      rw [opU_lenL, List.length_map, List.length_map, List.length_range]
    rw [exs_skip (ts_orF (ts_not (c := true) (ts_call' (ev_call (ds := [.int (k : Nat)]) (by rw [se_cons, se_var, v4, se_nil]; rfl) (h9 _))) rfl) (ts_orF (ts_not (c := true) (ts_val (x := .bl true) (by
      rw [bo_chn, se_chn, se_int, se_var, v4, Option.bind_some, Option.bind_some, opC_le, Option.bind_some, decide_eq_true (by omega)]
      simp only [if_true]
      rw [elen5, Option.bind_some, opC_lt, dlt_nat, decide_eq_true hkl]; rfl) rfl) rfl) (ts_not (c := true) (ts_call' (ev_call (ds := [.lst ((rowL s x k).map oD), .int (r : Nat)]) (by rw [se_cons, e54, se_cons, se_var, v3, se_nil]; rfl) (by rw [h92 (by have := hrl k hkl; omega), hgall]))) rfl)))]
    have t1 : ts G E0 (.val (.cmp .ne (.cmp .eq (.var 3) (.int 1)) (.cmp .eq (.b1 .len (.sub (.var 5) (.var 4))) (.int 0)))) = some false := by
      refine ts_val (x := .bl false) ?_ rfl
      have a1 : ev G E0 (.cmp .eq (.var 3) (.int 1)) = some (.bl (decide (r = 1))) := by
        rw [se_cmp, bo_var, b3, bo_int, se_int]
        show (opC .eq (.int (r : Nat)) (.int ((1 : Nat) : Int))).map D.bl = _
        rw [opC_eq, deq_nat]; rfl
      have a2 : ev G E0 (.cmp .eq (.b1 .len (.sub (.var 5) (.var 4))) (.int 0)) = some (.bl (decide ((beh s x (s.ks.getD k ([], 0))).length = 0))) := by
        rw [se_cmp, bo_b1, elen, bo_int, se_int]
        show (opC .eq (.int (((beh s x (s.ks.getD k ([], 0))).length : Nat) : Int)) (.int ((0 : Nat) : Int))).map D.bl = _
        rw [opC_eq, deq_nat]; rfl
      rw [bo_cmp, se_cmp, bo_cmp, a1, bo_cmp, a2, Option.bind_some, Option.bind_some, ne_bl]
      have : decide (r = 1) = decide ((beh s x (s.ks.getD k ([], 0))).length = 0) := by
        rw [Bool.eq_iff_iff, decide_eq_true_eq, decide_eq_true_eq, List.length_eq_zero_iff]; exact hone
      rw [this, beq_self_eq_true]; rfl
    have t2 : ts G E0 (.and (.val (.cmp .gt (.var 3) (.int 1))) (.val (.cmp .ne (.b1 .max (.sub (.var 5) (.var 4))) (.bin .sub (.var 3) (.int 1))))) = some false := by
      have a1 : ts G E0 (.val (.cmp .gt (.var 3) (.int 1))) = some (decide (1 < r)) := by
        refine ts_val (x := .bl (decide (1 < r))) ?_ rfl
        rw [bo_cmp, se_cmp, bo_var, b3, bo_int, se_int]
        show (opC .gt (.int (r : Nat)) (.int ((1 : Nat) : Int))).map D.bl = _
        rw [opC_gt, dlt_nat]; rfl
      by_cases h1 : 1 < r
      · rw [decide_eq_true h1] at a1
        refine ts_andT a1 ?_
        obtain ⟨b, m1, m2⟩ := hmax h1
        have hsome : ∀ o ∈ rowL s x k, o.isSome = true ∧ ∀ z, o = some z → z ≤ r - 1 := fun o ho => by
          have := List.all_eq_true.mp hgall o ho
          cases o with
          | none => cases this
          | some z =>
            have : z < r := of_decide_eq_true this
            exact ⟨rfl, fun y e => by cases e; omega⟩
        have emax : ev G E0 (.b1 .max (.sub (.var 5) (.var 4))) = some (.int ((r - 1 : Nat) : Int)) := by
          refine ev_b1 (x := .lst ((rowL s x k).map oD)) (by rw [bo_sub, e54]) ?_
          rw [ints_oD _ fun o ho => (hsome o ho).1]
          refine max_is (List.mem_map.mpr ⟨some (r - 1), List.mem_map.mpr ⟨b, m1, m2⟩, rfl⟩) fun z hz => ?_
          obtain ⟨o, ho, rfl⟩ := List.mem_map.mp hz
          obtain ⟨w, rfl⟩ := Option.isSome_iff_exists.mp (hsome o ho).1
          exact (hsome _ ho).2 w rfl
        refine ts_val (x := .bl false) ?_ rfl
        rw [bo_cmp, se_cmp, bo_b1, emax, Option.bind_some, bo_bin, ev_bin_of (x := .int (r : Nat)) (y := .int ((1 : Nat) : Int)) (by rw [bo_var, b3]) (by rw [bo_int, se_int]; rfl) (opB_subN (by omega)), Option.bind_some, opC_ne]
        simp
      · rw [decide_eq_false h1] at a1
        exact ts_andF a1
    rw [exs_skip (ts_orF t1 t2)]
    have hc : ev G E0 (.comp (.call 92 [(.sub (.var 5) (.var 6)), (.var 3)]) (.name 6) .r1 [(.var 4)] [] [6]) = some (.lst ((List.range k).map fun j => .bl ((rowL s x j).all (lessO r)))) := by
      refine ev_compM (List.range k) (fun (k : Nat) => .int k) (fun j => .bl ((rowL s x j).all (lessO r))) (vs := [.int (k : Nat)]) (by rw [sb_cons, bo_var, ← hE, sb_nil]; rfl) (walk_r1m (by omega)) (line_pos (by simp; omega)) fun j hj => ⟨_, x_bindN, ?_⟩
      have hj := List.mem_range.mp hj
      rw [← hE]
      simp only [x_kill1, x_kill0, List.set_cons_succ, List.set_cons_zero]
      refine ev_call (ds := [.lst ((rowL s x j).map oD), .int (r : Nat)]) ?_ (h92 (by have := hrl j (by omega); omega))
      rw [se_cons, se_sub, bo_var, se_var]
      show ((atI (((List.range s.ks.length).map (rowL s x)).map fun l => .lst (l.map oD)) (j : Nat)).bind _) = _
      rw [hat (by omega), Option.bind_some, se_cons, se_var, se_nil]; rfl
    have hany : ((List.range k).any fun j => (rowL s x j).all (lessO r)) = false := by
      rw [List.any_eq_false]
      intro j hj z
      have hj := List.mem_range.mp hj
      refine hk3 j hj ⟨by omega, ?_⟩
      rw [List.all_map] at z
      exact z
    rw [exs_ret (d := .bl true) (by
      rw [se_not, bo_b1, ev_b1c hc (any_bl _ _), hany]; rfl)]
    rfl
end
end Rx
end

section
set_option Elab.async false
set_option linter.all false
set_option maxRecDepth 100000
set_option maxHeartbeats 1000000
set_option autoImplicit false
/-! L73j: the till that the law builds. -/
namespace Rx
theorem len_contFb {b : Nat} : ∀ (caps : List Nat) (rows : List (List Nat)), (∀ k ∈ caps, k ≤ b) → (caps.foldl grow rows).length ≤ rows.length * (b + 1) ^ caps.length
  | [], rows, _ => by simp
  | cap :: caps, rows, h => by
    have h1 := len_contFb caps (grow rows cap) fun k hk => h k (List.mem_cons_of_mem _ hk)
    rw [len_grow] at h1
    have h2 := h cap (List.mem_cons_self ..)
    rw [List.foldl_cons, List.length_cons, Nat.pow_succ, Nat.mul_comm ((b + 1) ^ _) (b + 1), ← Nat.mul_assoc]
    exact Nat.le_trans h1 (Nat.mul_le_mul_right _ (Nat.mul_le_mul_left _ (by omega)))
theorem dt_sum : ∀ (vs g : List Nat), g.length = vs.length → ((List.range vs.length).map fun j => gt vs j * gt g j).sum = dt vs g
  | [], [], _ => rfl
  | v :: vs, x :: g, h => by
    have ih := dt_sum vs g (by simpa using h)
    rw [List.length_cons, List.range_succ_eq_map, List.map_cons, List.sum_cons, List.map_map]
    show v * x + ((List.range vs.length).map fun k => gt vs k * gt g k).sum = v * x + dt vs g
    rw [ih]
  | [], _ :: _, h => by simp at h
  | _ :: _, [], h => by simp at h
def V2 : List (List Nat) := [[1, 2], [1, 3], [2, 3], [2, 5], [1, 5], [5, 10]]
def V3 : List (List Nat) := [[1, 2, 5], [2, 3, 7], [1, 5, 10]]
section
variable {G GI : Nat → List D → Option D} {env : Env}
theorem ev_t2 {a b : Nat} : ev G env (.tup [.int (a : Nat), .int (b : Nat)]) = some (dT [a, b]) := ev_tup (xs := [.int (a : Nat), .int (b : Nat)]) (by simp) (line_pos (by simp))
theorem ev_t3 {a b c : Nat} : ev G env (.tup [.int (a : Nat), .int (b : Nat), .int (c : Nat)]) = some (dT [a, b, c]) := ev_tup (xs := [.int (a : Nat), .int (b : Nat), .int (c : Nat)]) (by simp) (line_pos (by simp))
theorem ev_V2 : ev G env (.tup [(.tup [(.int 1), (.int 2)]), (.tup [(.int 1), (.int 3)]), (.tup [(.int 2), (.int 3)]), (.tup [(.int 2), (.int 5)]), (.tup [(.int 1), (.int 5)]), (.tup [(.int 5), (.int 10)])]) = some (.tup (V2.map dT)) := by
  refine ev_tup (xs := V2.map dT) ?_ (line_pos (by simp [V2]))
  have e1 := ev_t2 (G := G) (env := env) (a := 1) (b := 2)
  have e2 := ev_t2 (G := G) (env := env) (a := 1) (b := 3)
  have e3 := ev_t2 (G := G) (env := env) (a := 2) (b := 3)
  have e4 := ev_t2 (G := G) (env := env) (a := 2) (b := 5)
  have e5 := ev_t2 (G := G) (env := env) (a := 1) (b := 5)
  have e6 := ev_t2 (G := G) (env := env) (a := 5) (b := 10)
  rw [se_cons, show ev G env (.tup [(.int 1), (.int 2)]) = _ from e1, se_cons, show ev G env (.tup [(.int 1), (.int 3)]) = _ from e2, se_cons, show ev G env (.tup [(.int 2), (.int 3)]) = _ from e3, se_cons, show ev G env (.tup [(.int 2), (.int 5)]) = _ from e4, se_cons, show ev G env (.tup [(.int 1), (.int 5)]) = _ from e5, se_cons, show ev G env (.tup [(.int 5), (.int 10)]) = _ from e6, se_nil]
  rfl
theorem ev_V3 : ev G env (.tup [(.tup [(.int 1), (.int 2), (.int 5)]), (.tup [(.int 2), (.int 3), (.int 7)]), (.tup [(.int 1), (.int 5), (.int 10)])]) = some (.tup (V3.map dT)) := by
  refine ev_tup (xs := V3.map dT) ?_ (line_pos (by simp [V3]))
  have e1 := ev_t3 (G := G) (env := env) (a := 1) (b := 2) (c := 5)
  have e2 := ev_t3 (G := G) (env := env) (a := 2) (b := 3) (c := 7)
  have e3 := ev_t3 (G := G) (env := env) (a := 1) (b := 5) (c := 10)
  rw [se_cons, show ev G env (.tup [(.int 1), (.int 2), (.int 5)]) = _ from e1, se_cons, show ev G env (.tup [(.int 2), (.int 3), (.int 7)]) = _ from e2, se_cons, show ev G env (.tup [(.int 1), (.int 5), (.int 10)]) = _ from e3, se_nil]
  rfl
end
structure VsOk (vs : List Nat) (rooms : Nat) : Prop where
  v10 : ∀ v ∈ vs, v ≤ 10
  nr : (vs.length = 2 ∧ rooms = 4) ∨ (vs.length = 3 ∧ rooms = 2)
theorem V2_ok (i : Nat) (h : i < V2.length) : VsOk V2[i] 4 := by
  have h0 : ∀ l ∈ V2, (∀ v ∈ l, v ≤ 10) ∧ l.length = 2 := by decide
  obtain ⟨h1, h2⟩ := h0 _ (List.getElem_mem h)
  exact ⟨h1, .inl ⟨h2, rfl⟩⟩
theorem V3_ok (i : Nat) (h : i < V3.length) : VsOk V3[i] 2 := by
  have h0 : ∀ l ∈ V3, (∀ v ∈ l, v ≤ 10) ∧ l.length = 3 := by decide
  obtain ⟨h1, h2⟩ := h0 _ (List.getElem_mem h)
  exact ⟨h1, .inr ⟨h2, rfl⟩⟩
def givenF (ws vs : List Nat) (k : Nat) : List Nat := (List.range vs.length).map fun j => gt ws (6 + 4 * k + j) % 3
def kindF (ws vs : List Nat) (k : Nat) : List Nat × Nat := (givenF ws vs k, dt vs (givenF ws vs k) - gt ws (9 + 4 * k) % (dt vs (givenF ws vs k) + 1))
def shopF (ws vs : List Nat) (rooms : Nat) : Shop := ⟨vs, (List.range vs.length).map fun k => gt ws (2 + k) % rooms, (List.range (1 + gt ws 5 % 3)).map (kindF ws vs)⟩
theorem shop_ok {ws vs : List Nat} {rooms : Nat} (h : VsOk vs rooms) : Sh (shopF ws vs rooms) ∧ (conts (shopF ws vs rooms).caps).length ≤ 16 := by
  have hn := h.nr
  have h5 := Nat.mod_lt (gt ws 5) (show 0 < 3 by omega)
  have hc : ∀ k ∈ (shopF ws vs rooms).caps, k ≤ rooms - 1 := fun k hk => by
    obtain ⟨j, _, rfl⟩ := List.mem_map.mp hk
    have := Nat.mod_lt (gt ws (2 + j)) (show 0 < rooms by omega)
    omega
  have hcl : (shopF ws vs rooms).caps.length = vs.length := by simp [shopF]
  refine ⟨⟨by show vs.length ≤ 3; omega, h.v10, hcl, fun k hk => by have := hc k hk; omega, by simp [shopF]; omega, fun kd hkd => ?_⟩, ?_⟩
  · obtain ⟨k, _, rfl⟩ := List.mem_map.mp hkd
    refine ⟨by simp [kindF, givenF, shopF], fun g hg => ?_, Nat.sub_le _ _⟩
    obtain ⟨j, _, rfl⟩ := List.mem_map.mp hg
    have := Nat.mod_lt (gt ws (6 + 4 * k + j)) (show 0 < 3 by omega)
    omega
  · have hb := len_contFb (shopF ws vs rooms).caps [[]] hc
    rw [hcl] at hb
    have h16 : (rooms - 1 + 1) ^ vs.length ≤ 16 := by
      rcases hn with ⟨e1, e2⟩ | ⟨e1, e2⟩
      · rw [e1, e2]; decide
      · rw [e1, e2]; decide
    unfold conts
    simp only [List.length_cons, List.length_nil] at hb
    omega
section
variable {G GI : Nat → List D → Option D} {ws vs : List Nat} {rooms : Nat}
theorem ev_row {env : Env} {e em : E} {v i j m : Nat} (hv : env.bor v = some (.lst (dV ws))) (he : ev G env e = some (.int (i : Nat))) (h : i < ws.length) (hm : bo env em (ev G env em) = some (.int (m : Nat))) (h0 : 0 < m) : ev G env (.bin .mod (.b1 .int (.sub (.var v) e)) em) = some (.int ((gt ws i % m : Nat) : Int)) :=
  ev_mod (ev_at hv he h rfl) (fun _ => bo_b1) hm h0
theorem shop_tail (h : VsOk vs rooms) (hw : ws.length = 24) : retD (exs G GI [.val (.lst (dV ws)), .val (dT vs), .val (.int rooms), .unk, .unk, .unk, .unk, .unk, .unk] (f_law_shop.body.drop 2)) = some (dSh (shopF ws vs rooms)) := by
  have hn := h.nr
  have h5 := Nat.mod_lt (gt ws 5) (show 0 < 3 by omega)
  show retD (exs G GI _ (.asg 3 _ :: .asgO 4 _ :: .for_ _ _ _ _ _ :: [.ret _])) = _
  have hc := ev_compM (G := G) (env := [.val (.lst (dV ws)), .val (dT vs), .val (.int rooms), .unk, .unk, .unk, .unk, .unk, .unk]) (e := .bin .mod (.b1 .int (.sub (.var 0) (.bin .add (.int 2) (.var 5)))) (.var 2)) (t := .name 5) (k := .r1) (es := [(.b1 .len (.var 1))]) (own := [5]) (vs := [.int (vs.length : Nat)]) (List.range vs.length) (fun (k : Nat) => .int k) (fun k => .int ((gt ws (2 + k) % rooms : Nat) : Int)) (by rw [sb_cons, bo_b1, ev_lenV rfl, sb_nil]; rfl) (walk_r1m (by omega)) (line_pos (by simp; omega)) fun k hk => ⟨_, x_bindN, by
    have hk := List.mem_range.mp hk
    simp only [x_kill1, x_kill0, List.set_cons_succ, List.set_cons_zero]
    exact ev_row (j := 0) rfl (ev_bin_of (x := .int ((2 : Nat) : Int)) (y := .int k) (by rw [bo_int, se_int]; rfl) (by rw [bo_var]; rfl) opB_addN) (by omega) (by rw [bo_var]; rfl) (by omega)⟩
  rw [map_dV (List.range vs.length) fun k => gt ws (2 + k) % rooms] at hc
  rw [exs_asg (ev_b1c hc opU_tupL)]
  simp only [List.set_cons_succ, List.set_cons_zero]
  rw [exs_asgO (d := .lst ((((List.range (1 + gt ws 5 % 3)).map (kindF ws vs)).take 0).map dKd)) ev_lst0 rfl]
  simp only [List.set_cons_succ, List.set_cons_zero]
  generalize hcaps : ((List.range vs.length).map fun k => gt ws (2 + k) % rooms) = caps
  have hloop := forL_foldA (kl := [5, 6, 7]) (step := fun d e => (bind (.name 5) d e).bind fun e' => exs G GI e' [.asg 6 (.b1 .tuple (.comp (.bin .mod (.b1 .int (.sub (.var 0) (.bin .add (.bin .add (.int 6) (.bin .mul (.int 4) (.var 5))) (.var 8)))) (.int 3)) (.name 8) .r1 [(.b1 .len (.var 1))] [] [8])), .asg 7 (.b1 .sum (.comp (.bin .mul (.sub (.var 1) (.var 8)) (.sub (.var 6) (.var 8))) (.name 8) .r1 [(.b1 .len (.var 1))] [] [8])), .app 4 (.tup [(.var 6), (.bin .sub (.var 7) (.bin .mod (.b1 .int (.sub (.var 0) (.bin .add (.int 9) (.bin .mul (.int 4) (.var 5))))) (.bin .add (.var 7) (.int 1))))])])
    (fun (k : Nat) => .int k) (fun (i : Nat) => [.val (.lst (dV ws)), .val (dT vs), .val (.int rooms), .val (dT caps), .own (.lst ((((List.range (1 + gt ws 5 % 3)).map (kindF ws vs)).take i).map dKd)), .unk, .unk, .unk, .unk]) (fun i _ => i + 1) (fun i k => k = i) (List.range (1 + gt ws 5 % 3)) 0 0 rfl (fun _ => rfl) (fun i a i' hi hp => by
      rw [Nat.zero_add] at hp ⊢
      subst hp
      have hil : i' < 1 + gt ws 5 % 3 := by have := (List.getElem?_eq_some_iff.mp hi).1; simpa using this
      have hae : a = i' := by rw [List.getElem?_range hil] at hi; simpa using hi.symm
      subst hae
      have hkd : ((List.range (1 + gt ws 5 % 3)).map (kindF ws vs))[a]? = some (kindF ws vs a) := by rw [List.getElem?_map, hi]; rfl
      refine ⟨rfl, [.val (.lst (dV ws)), .val (dT vs), .val (.int rooms), .val (dT caps), .own (.lst ((((List.range (1 + gt ws 5 % 3)).map (kindF ws vs)).take (a + 1)).map dKd)), .val (.int a), .val (dT (givenF ws vs a)), .val (.int (dt vs (givenF ws vs a) : Nat)), .unk], ?_, rfl⟩
      rw [x_bindN, Option.bind_some]
      simp only [List.set_cons_succ, List.set_cons_zero]
      generalize hO : (Cell.own (.lst ((((List.range (1 + gt ws 5 % 3)).map (kindF ws vs)).take a).map dKd))) = O
      have hc1 := ev_compM (G := G) (env := [.val (.lst (dV ws)), .val (dT vs), .val (.int rooms), .val (dT caps), O, .val (.int a), .unk, .unk, .unk]) (e := .bin .mod (.b1 .int (.sub (.var 0) (.bin .add (.bin .add (.int 6) (.bin .mul (.int 4) (.var 5))) (.var 8)))) (.int 3)) (t := .name 8) (k := .r1) (es := [(.b1 .len (.var 1))]) (own := [8]) (vs := [.int (vs.length : Nat)]) (List.range vs.length) (fun (k : Nat) => .int k) (fun j => .int ((gt ws (6 + 4 * a + j) % 3 : Nat) : Int)) (by rw [sb_cons, bo_b1, ev_lenV rfl, sb_nil]; rfl) (walk_r1m (by omega)) (line_pos (by simp; omega)) fun j hj => ⟨_, x_bindN, by
        have hj := List.mem_range.mp hj
        simp only [x_kill1, x_kill0, List.set_cons_succ, List.set_cons_zero]
        refine ev_row (j := 0) (m := 3) rfl (ev_bin_of (x := .int ((6 + 4 * a : Nat) : Int)) (y := .int j) (by
          rw [bo_bin]
          exact ev_bin_of (x := .int ((6 : Nat) : Int)) (y := .int ((4 * a : Nat) : Int)) (by rw [bo_int, se_int]; rfl) (by rw [bo_bin]; exact ev_bin_of (x := .int ((4 : Nat) : Int)) (y := .int a) (by rw [bo_int, se_int]; rfl) (by rw [bo_var]; rfl) (ev_pure_mul (by omega))) opB_addN) (by rw [bo_var]; rfl) opB_addN) (by omega) (by rw [bo_int, se_int]; rfl) (by omega)⟩
      rw [map_dV (List.range vs.length) fun j => gt ws (6 + 4 * a + j) % 3] at hc1
      rw [exs_asg (d := dT (givenF ws vs a)) (ev_b1c hc1 opU_tupL)]
      simp only [List.set_cons_succ, List.set_cons_zero]
      have hgl : (givenF ws vs a).length = vs.length := by simp [givenF]
      have hc2 := ev_compM (G := G) (env := [.val (.lst (dV ws)), .val (dT vs), .val (.int rooms), .val (dT caps), O, .val (.int a), .val (dT (givenF ws vs a)), .unk, .unk]) (e := .bin .mul (.sub (.var 1) (.var 8)) (.sub (.var 6) (.var 8))) (t := .name 8) (k := .r1) (es := [(.b1 .len (.var 1))]) (own := [8]) (vs := [.int (vs.length : Nat)]) (List.range vs.length) (fun (k : Nat) => .int k) (fun j => .int ((gt vs j * gt (givenF ws vs a) j : Nat) : Int)) (by rw [sb_cons, bo_b1, ev_lenV rfl, sb_nil]; rfl) (walk_r1m (by omega)) (line_pos (by simp; omega)) fun j hj => ⟨_, x_bindN, by
        have hj := List.mem_range.mp hj
        have := h.v10 _ (gt_mem hj)
        simp only [x_kill1, x_kill0, List.set_cons_succ, List.set_cons_zero]
        exact ev_bin_of (by rw [bo_sub]; exact ev_at2 (l := vs) (j := j) rfl rfl hj) (by rw [bo_sub]; exact ev_at2 (l := givenF ws vs a) (j := j) rfl rfl (by omega)) (ev_pure_mul (by omega))⟩
      rw [map_dV (List.range vs.length) fun j => gt vs j * gt (givenF ws vs a) j] at hc2
      rw [exs_asg (d := .int (dt vs (givenF ws vs a) : Nat)) (by rw [ev_b1c hc2 (sum_dL _), dt_sum vs _ hgl])]
      simp only [List.set_cons_succ, List.set_cons_zero]
      have hmodl := Nat.mod_lt (gt ws (9 + 4 * a)) (show 0 < dt vs (givenF ws vs a) + 1 by omega)
      have ek : ev G [.val (.lst (dV ws)), .val (dT vs), .val (.int rooms), .val (dT caps), O, .val (.int a), .val (dT (givenF ws vs a)), .val (.int (dt vs (givenF ws vs a) : Nat)), .unk] (.tup [(.var 6), (.bin .sub (.var 7) (.bin .mod (.b1 .int (.sub (.var 0) (.bin .add (.int 9) (.bin .mul (.int 4) (.var 5))))) (.bin .add (.var 7) (.int 1))))]) = some (dKd (kindF ws vs a)) := by
        refine ev_tup (xs := [dT (givenF ws vs a), .int ((dt vs (givenF ws vs a) - gt ws (9 + 4 * a) % (dt vs (givenF ws vs a) + 1) : Nat) : Int)]) ?_ (line_pos (by simp))
        rw [se_cons, se_var, se_cons, ev_bin_of (x := .int (dt vs (givenF ws vs a) : Nat)) (y := .int ((gt ws (9 + 4 * a) % (dt vs (givenF ws vs a) + 1) : Nat) : Int)) (by rw [bo_var]; rfl) (by
          rw [bo_bin]
          exact ev_row (j := 0) rfl (ev_bin_of (x := .int ((9 : Nat) : Int)) (y := .int ((4 * a : Nat) : Int)) (by rw [bo_int, se_int]; rfl) (by rw [bo_bin]; exact ev_bin_of (x := .int ((4 : Nat) : Int)) (y := .int a) (by rw [bo_int, se_int]; rfl) (by rw [bo_var]; rfl) (ev_pure_mul (by omega))) opB_addN) (by omega) (by rw [bo_bin]; exact ev_bin_of (x := .int (dt vs (givenF ws vs a) : Nat)) (y := .int ((1 : Nat) : Int)) (by rw [bo_var]; rfl) (by rw [bo_int, se_int]; rfl) opB_addN) (by omega)) (opB_subN (by omega)), se_nil]
        rfl
      subst hO
      rw [exs_app (xs := (((List.range (1 + gt ws 5 % 3)).map (kindF ws vs)).take a).map dKd) rfl ek (line_pos (by simp; omega))]
      simp only [List.set_cons_succ, List.set_cons_zero]
      rw [exs_nil, take_one hkd, List.map_append]; rfl)
  have hf := hloop.2
  rw [Nat.zero_add, List.length_range] at hf
  have hl1 := hloop.1
  rw [hf, List.take_of_length_le (l := (List.range (1 + gt ws 5 % 3)).map (kindF ws vs)) (i := 1 + gt ws 5 % 3) (by simp)] at hl1
  have e5 : ev G [.val (.lst (dV ws)), .val (dT vs), .val (.int rooms), .val (dT caps), .own (.lst ((((List.range (1 + gt ws 5 % 3)).map (kindF ws vs)).take 0).map dKd)), .unk, .unk, .unk, .unk] (.bin .add (.int 1) (.bin .mod (.b1 .int (.sub (.var 0) (.int 5))) (.int 3))) = some (.int ((1 + gt ws 5 % 3 : Nat) : Int)) :=
    ev_bin_of (x := .int ((1 : Nat) : Int)) (y := .int ((gt ws 5 % 3 : Nat) : Int)) (by rw [bo_int, se_int]; rfl) (by
      rw [bo_bin]
      exact ev_row (j := 0) (i := 5) (m := 3) rfl (by rw [se_int]; rfl) (by omega) (by rw [bo_int, se_int]; rfl) (by omega)) opB_addN
  rw [exs_for (vs := [.int ((1 + gt ws 5 % 3 : Nat) : Int)]) (by rw [se_cons, e5, se_nil]; rfl) (walk_r1m (by omega)) hl1]
  rw [exs_ret (d := dSh (shopF ws vs rooms)) (by
    refine ev_tup (xs := [dT vs, dT caps, .tup (((List.range (1 + gt ws 5 % 3)).map (kindF ws vs)).map dKd)]) ?_ (line_pos (by simp)) |>.trans ?_
    · rw [se_cons, se_var, se_cons, se_var, se_cons, se_b1, bo_var, se_nil]; rfl
    · rw [← hcaps]; rfl)]
  rfl
end
theorem r87 (c : Nat) {ws : List Nat} (hw : ws.length = 24) : ∃ s : Shop, Sh s ∧ (conts s.caps).length ≤ 16 ∧ run defs (c + 1) 87 [.lst (dV ws)] = some (dSh s) := by
  have key : ∃ vs rooms, VsOk vs rooms ∧ run defs (c + 1) 87 [.lst (dV ws)] = retD (exs (run defs c) (runI defs c) [.val (.lst (dV ws)), .val (dT vs), .val (.int (rooms : Nat)), .unk, .unk, .unk, .unk, .unk, .unk] (f_law_shop.body.drop 2)) := by
    have h6 := Nat.mod_lt (gt ws 0) (show 0 < 6 by omega)
    have h3 := Nat.mod_lt (gt ws 0) (show 0 < 3 by omega)
    have e0 : run defs (c + 1) 87 [.lst (dV ws)] = retD (exs (run defs c) (runI defs c) [.val (.lst (dV ws)), .unk, .unk, .unk, .unk, .unk, .unk, .unk, .unk] f_law_shop.body) := by
      show ((defs 87).bind fun fn => if fn.io = false ∧ [D.lst (dV ws)].length = fn.ps then retD (exs (run defs c) (runI defs c) (fn.start [.lst (dV ws)]) fn.body) else none) = _
      rfl
    generalize run defs c = G at *
    generalize runI defs c = GI at *
    rw [e0]
    have ea : ev G [.val (.lst (dV ws)), .unk, .unk, .unk, .unk, .unk, .unk, .unk, .unk] (.sub (.tup [(.tup [(.int 1), (.int 2)]), (.tup [(.int 1), (.int 3)]), (.tup [(.int 2), (.int 3)]), (.tup [(.int 2), (.int 5)]), (.tup [(.int 1), (.int 5)]), (.tup [(.int 5), (.int 10)])]) (.bin .mod (.b1 .int (.sub (.var 0) (.int 0))) (.int 6))) = some (dT (V2[gt ws 0 % 6]'h6)) := by
      rw [se_sub, bo_tup, ev_V2, Option.bind_some, ev_row (j := 0) (i := 0) (m := 6) rfl (by rw [se_int]; rfl) (by omega) (by rw [bo_int, se_int]; rfl) (by omega), Option.bind_some, opSub_tup, atI_map h6]
    show ∃ vs rooms, VsOk vs rooms ∧ retD (exs G GI [.val (.lst (dV ws)), .unk, .unk, .unk, .unk, .unk, .unk, .unk, .unk] (.asgP _ _ :: .ifs _ _ _ :: f_law_shop.body.drop 2)) = _
    rw [exs_asgP (ds := [dT (V2[gt ws 0 % 6]'h6), .int ((4 : Nat) : Int)]) (env' := [.val (.lst (dV ws)), .val (dT (V2[gt ws 0 % 6]'h6)), .val (.int ((4 : Nat) : Int)), .unk, .unk, .unk, .unk, .unk, .unk]) (by rw [se_cons, ea, se_cons, se_int, se_nil]; rfl) rfl]
    have et : ts G [.val (.lst (dV ws)), .val (dT (V2[gt ws 0 % 6]'h6)), .val (.int ((4 : Nat) : Int)), .unk, .unk, .unk, .unk, .unk, .unk] (.val (.cmp .eq (.bin .mod (.b1 .int (.sub (.var 0) (.int 1))) (.int 5)) (.int 4))) = some (decide (gt ws 1 % 5 = 4)) := by
      refine ts_val (x := .bl (decide (gt ws 1 % 5 = 4))) ?_ rfl
      rw [bo_cmp, se_cmp, bo_bin, ev_row (j := 0) (i := 1) (m := 5) rfl (by rw [se_int]; rfl) (by omega) (by rw [bo_int, se_int]; rfl) (by omega), Option.bind_some, bo_int, se_int, Option.bind_some]
      show (opC .eq (.int ((gt ws 1 % 5 : Nat) : Int)) (.int ((4 : Nat) : Int))).map D.bl = _
      rw [opC_eq, deq_nat]; rfl
    by_cases q : gt ws 1 % 5 = 4
    · rw [decide_eq_true q] at et
      have eb : ev G [.val (.lst (dV ws)), .val (dT (V2[gt ws 0 % 6]'h6)), .val (.int ((4 : Nat) : Int)), .unk, .unk, .unk, .unk, .unk, .unk] (.sub (.tup [(.tup [(.int 1), (.int 2), (.int 5)]), (.tup [(.int 2), (.int 3), (.int 7)]), (.tup [(.int 1), (.int 5), (.int 10)])]) (.bin .mod (.b1 .int (.sub (.var 0) (.int 0))) (.int 3))) = some (dT (V3[gt ws 0 % 3]'h3)) := by
        rw [se_sub, bo_tup, ev_V3, Option.bind_some, ev_row (j := 0) (i := 0) (m := 3) rfl (by rw [se_int]; rfl) (by omega) (by rw [bo_int, se_int]; rfl) (by omega), Option.bind_some, opSub_tup, atI_map h3]
      refine ⟨_, 2, V3_ok _ h3, ?_⟩
      rw [exs_ifT et (by
        rw [exs_asgP (ds := [dT (V3[gt ws 0 % 3]'h3), .int ((2 : Nat) : Int)]) (env' := [.val (.lst (dV ws)), .val (dT (V3[gt ws 0 % 3]'h3)), .val (.int ((2 : Nat) : Int)), .unk, .unk, .unk, .unk, .unk, .unk]) (by rw [se_cons, eb, se_cons, se_int, se_nil]; rfl) rfl, exs_nil])]
    · rw [decide_eq_false q] at et
      exact ⟨_, 4, V2_ok _ h6, by rw [exs_skip et]⟩
  obtain ⟨vs, rooms, h1, h2⟩ := key
  obtain ⟨g1, g2⟩ := shop_ok (ws := ws) h1
  exact ⟨shopF ws vs rooms, g1, g2, h2.trans (shop_tail h1 hw)⟩
end Rx
end

section
set_option Elab.async false
set_option linter.all false
set_option maxRecDepth 100000
set_option maxHeartbeats 2000000
set_option autoImplicit false
/-! L73k: the law. -/
namespace Rx
theorem forL_first {step : D → Env → Option (Fl × Env)} {kl : List Nat} {env0 env1 : Env} (hk : env1.kill kl = env1) {x : D} {xs : List D} (h0 : ∃ e', step x env0 = some (.nx, e') ∧ e'.kill kl = env1) (h1 : ∀ y ∈ xs, ∃ e', step y env1 = some (.nx, e') ∧ e'.kill kl = env1) : forL step kl (x :: xs) env0 = some (.nx, env1) := by
  obtain ⟨e', q1, q2⟩ := h0
  rw [forL, q1]
  show forL step kl xs (e'.kill kl) = _
  rw [q2]
  exact forL_same hk h1
section
variable {s : Shop}
theorem ev_fld0 {G : Nat → List D → Option D} {env : Env} {i : Nat} (h : env.bor i = some (dSh s)) : ev G env (.sub (.var i) (.int 0)) = some (dT s.vs) := by
  rw [se_sub, bo_var, h, Option.bind_some, se_int, Option.bind_some]; rfl
theorem ev_fld1 {G : Nat → List D → Option D} {env : Env} {i : Nat} (h : env.bor i = some (dSh s)) : ev G env (.sub (.var i) (.int 1)) = some (dT s.caps) := by
  rw [se_sub, bo_var, h, Option.bind_some, se_int, Option.bind_some]; rfl
theorem ev_fld2 {G : Nat → List D → Option D} {env : Env} {i : Nat} (h : env.bor i = some (dSh s)) : ev G env (.sub (.var i) (.int 2)) = some (.tup (s.ks.map dKd)) := by
  rw [se_sub, bo_var, h, Option.bind_some, se_int, Option.bind_some]; rfl
theorem ev_gt0 {G : Nat → List D → Option D} {env : Env} {i : Nat} {l : List (List Nat)} (h : env.bor i = some (.tup (l.map dT))) : ev G env (.cmp .gt (.b1 .len (.var i)) (.int 0)) = some (.bl (decide (0 < l.length))) := by
  rw [se_cmp, bo_b1, ev_b1 (x := .tup (l.map dT)) (z := .int (l.length : Nat)) (by rw [bo_var, h]) (by rw [opU_lenT, List.length_map]), Option.bind_some, bo_int, se_int, Option.bind_some]
  show (opC .gt (.int (l.length : Nat)) (.int ((0 : Nat) : Int))).map D.bl = _
  rw [opC_gt, dlt_nat]; rfl
theorem ev_gt0L {G : Nat → List D → Option D} {env : Env} {i : Nat} {l : List Nat} (h : env.bor i = some (.lst (dV l))) : ev G env (.cmp .gt (.b1 .len (.var i)) (.int 0)) = some (.bl (decide (0 < l.length))) := by
  rw [se_cmp, bo_b1, ev_b1 (x := .lst (dV l)) (z := .int (l.length : Nat)) (by rw [bo_var, h]) (by rw [opU_lenL, dV_len]), Option.bind_some, bo_int, se_int, Option.bind_some]
  show (opC .gt (.int (l.length : Nat)) (.int ((0 : Nat) : Int))).map D.bl = _
  rw [opC_gt, dlt_nat]; rfl
theorem ne_self (l : List Nat) : opC .ne (.lst (dV l)) (.lst (dV l)) = some false := by
  show (if (D.plainL (dV l) && D.plainL (dV l) && decide (D.depthL (dV l) + 1 < 60) && decide (D.depthL (dV l) + 1 < 60)) = true then some (!D.eqbL (dV l) (dV l)) else none) = _
  rw [plain_dV, depth_dV, eqb_dV, decide_eq_true rfl]; rfl
noncomputable abbrev lE (s : Shop) (c : List Nat) : D × D := (dT c, oD (rk s c))
end
abbrev kenv (ns : List Int) (s : Shop) (c2 c3 c4 c5 c6 c7 c8 : Cell) : Env := [.val (.scr ns), .val (dSh s), c2, c3, c4, c5, c6, c7, c8]
theorem law_tail {s : Shop} (S : Sh s) (few : (conts s.caps).length ≤ 16) (ns : List Int) {G GI : Nat → List D → Option D}
    (h88 : G 88 [dT s.caps] = some (.lst ((conts s.caps).map dT))) (h81 : G 81 [dSh s] = some (.tup ((flo s).map dT))) (h82 : G 82 [dSh s] = some (.tup ((wor s).map dT)))
    (h90 : ∀ {l : List (List Nat)}, (∀ o ∈ l, leV o s.caps = true) → G 90 [.tup (l.map dT), dT s.caps] = some (.bl true)) (h84 : ∀ x, G 84 [dSh s, dT x] = some (oD (rk s x))) (h9 : ∀ i : Int, G 9 [.int i] = some (.bl true))
    (h89 : ∀ {l : List (List Nat)} {x : List Nat}, leV x s.caps = true → (∀ o ∈ l, leV o s.caps = true) → l.length ≤ 16 → G 89 [dT x, .tup (l.map dT)] = some (.bl (l.any fun o => leV o x)))
    (h93 : ∀ {x : List Nat}, leV x s.caps = true → G 93 [dSh s, dLR s, dT x] = some (.bl true)) (h86 : G 86 [dT s.vs, dT s.caps, .tup (s.ks.map dKd)] = some (.tup ((leastV (rooms s)).map dT))) :
    retD (exs G GI (kenv ns s .unk .unk .unk .unk .unk .unk .unk) (f_law.body.drop 1)) = some (.bl true) := by
  have hfl : ∀ o ∈ flo s, leV o s.caps = true := fun o ho => mem_conts.mp (List.mem_filter.mp (mem_leastV.mp ho).1).1
  have hwo : ∀ o ∈ wor s, leV o s.caps = true := fun o ho => mem_conts.mp (List.mem_filter.mp (mem_mostV.mp ho).1).1
  have hro : ∀ o ∈ leastV (rooms s), leV o s.caps = true := fun o ho => rooms_le S (mem_leastV.mp ho).1
  have hfll : (flo s).length ≤ 16 := Nat.le_trans (List.length_filter_le _ _) (Nat.le_trans (List.length_filter_le _ _) few)
  have hwol : (wor s).length ≤ 16 := Nat.le_trans (List.length_filter_le _ _) (Nat.le_trans (List.length_filter_le _ _) few)
  have hrol : (leastV (rooms s)).length ≤ 16 := by
    refine Nat.le_trans (List.length_filter_le _ _) (Nat.le_trans ?_ few)
    have : ∀ (l good : List (List Nat)), (l.foldl (roomG s) good).length ≤ good.length + l.length := by
      intro l
      induction l with
      | nil => intro good; simp
      | cons x l ih =>
        intro good
        have := ih (roomG s good x)
        have h2 : (roomG s good x).length ≤ good.length + 1 := by unfold roomG; split <;> simp
        rw [List.foldl_cons, List.length_cons]; omega
    have := this (conts s.caps) []
    unfold rooms
    simpa using this
  show retD (exs G GI _ (.asgP _ _ :: .ifs _ _ _ :: .for_ _ _ _ _ _ :: .asg 7 _ :: .ifs _ _ _ :: .ifs _ _ _ :: .for_ _ _ _ _ _ :: .asg 8 _ :: .ifs _ _ _ :: [.ret _])) = _
  rw [exs_asgP (ds := [.lst ((conts s.caps).map dT), .dic true (((conts s.caps).take 0).map (lE s)), .tup ((flo s).map dT), .tup ((wor s).map dT)]) (env' := kenv ns s (.val (.lst ((conts s.caps).map dT))) (.own (.dic true (((conts s.caps).take 0).map (lE s)))) (.val (.tup ((flo s).map dT))) (.val (.tup ((wor s).map dT))) .unk .unk .unk) (by
    rw [se_cons, ev_call (ds := [dT s.caps]) (by rw [se_cons, ev_fld1 rfl, se_nil]; rfl) h88, se_cons, show ev G (kenv ns s .unk .unk .unk .unk .unk .unk .unk) (.dic0 true) = some (.dic true []) by rw [ev], se_cons, ev_call (ds := [dSh s]) (by simp) h81, se_cons, ev_call (ds := [dSh s]) (by simp) h82, se_nil]; rfl) rfl]
  rw [exs_skip (ts_orF (ts_not (c := true) (ts_call' (ev_call (ds := [.tup ((flo s).map dT), dT s.caps]) (by rw [se_cons, se_var, se_cons, ev_fld1 rfl, se_nil]; rfl) (h90 hfl))) rfl) (ts_not (c := true) (ts_call' (ev_call (ds := [.tup ((wor s).map dT), dT s.caps]) (by rw [se_cons, se_var, se_cons, ev_fld1 rfl, se_nil]; rfl) (h90 hwo))) rfl))]
  have hloop1 := forL_foldA (kl := [6]) (step := fun d e => (bind (.name 6) d e).bind fun e' => exs G GI e' [.sset 3 (.var 6) (.call 84 [(.var 1), (.var 6)]), .ifs (.and (.val (.cmp .isnt (.sub (.var 3) (.var 6)) .non)) (.or (.not (.val (.call 9 [(.sub (.var 3) (.var 6))]))) (.val (.cmp .lt (.sub (.var 3) (.var 6)) (.int 1))))) [.ret (.bl false)] []])
    dT (fun (j : Nat) => kenv ns s (.val (.lst ((conts s.caps).map dT))) (.own (.dic true (((conts s.caps).take j).map (lE s)))) (.val (.tup ((flo s).map dT))) (.val (.tup ((wor s).map dT))) .unk .unk .unk) (fun j _ => j + 1) (fun i j => j = i) (conts s.caps) 0 0 rfl (fun _ => rfl) (fun j x j' hj hp => by
      rw [Nat.zero_add] at hp ⊢
      subst hp
      have hx := mem_conts.mp (List.mem_of_getElem? hj)
      have hjl := (List.getElem?_eq_some_iff.mp hj).1
      refine ⟨rfl, kenv ns s (.val (.lst ((conts s.caps).map dT))) (.own (.dic true (((conts s.caps).take (j' + 1)).map (lE s)))) (.val (.tup ((flo s).map dT))) (.val (.tup ((wor s).map dT))) (.val (dT x)) .unk .unk, ?_, rfl⟩
      rw [x_bindN, Option.bind_some]
      simp only [List.set_cons_succ, List.set_cons_zero]
      rw [exs_sset (v := oD (rk s x)) (x := .dic true (((conts s.caps).take j').map (lE s))) (kd := dT x) (ev_call (ds := [dSh s, dT x]) (by simp) (h84 x)) rfl (by rw [se_var]; rfl) (putAt_dT (fun p hp => by
        obtain ⟨y, hy, rfl⟩ := List.mem_map.mp hp
        show D.eqb (dT y) (dT x) = false
        rw [eqb_dT, decide_eq_false]
        intro e
        exact not_take (nodup_conts _) hj (by rw [← e]; exact hy)) (by rw [List.length_map, List.length_take]; omega))]
      simp only [List.set_cons_succ, List.set_cons_zero]
      have e1 : ((conts s.caps).take j').map (lE s) ++ [(dT x, oD (rk s x))] = ((conts s.caps).take (j' + 1)).map (lE s) := by rw [take_one hj, List.map_append]; rfl
      rw [e1]
      unfold kenv
      generalize hE : ([.val (.scr ns), .val (dSh s), .val (.lst ((conts s.caps).map dT)), .own (.dic true (((conts s.caps).take (j' + 1)).map (lE s))), .val (.tup ((flo s).map dT)), .val (.tup ((wor s).map dT)), .val (dT x), .unk, .unk] : Env) = E0
      have e36 : ev G E0 (.sub (.var 3) (.var 6)) = some (oD (rk s x)) := by
        rw [← hE, se_sub, bo_var, se_var]
        show (if isKey true (dT x) = true then D.get (((conts s.caps).take (j' + 1)).map (lE s)) (dT x) else none) = _
        rw [if_pos (key_dT x)]
        have := get_map (fun c => oD (rk s c)) ((conts s.caps).take (j' + 1)) x
        rw [if_pos (by rw [take_one hj]; simp)] at this
        exact this
      have tI : ts G E0 (.val (.cmp .isnt (.sub (.var 3) (.var 6)) .non)) = some (!(rk s x).isNone) := ts_val (x := .bl (!(rk s x).isNone)) (by rw [bo_cmp, bl_isnt (o := rk s x) (by rw [bo_sub, e36])]) rfl
      rw [exs_skip (show ts G E0 _ = some false by
        cases q : rk s x with
        | none =>
          rw [q] at tI
          exact ts_andF tI
        | some r =>
          rw [q] at tI e36
          refine ts_andT tI (ts_orF (ts_not (c := true) (ts_call' (ev_call (ds := [.int (r : Nat)]) (by rw [se_cons, e36, se_nil]; rfl) (h9 _))) rfl) (ts_val (x := .bl false) ?_ rfl))
          have := (rk_some S hx q).1
          rw [bo_cmp, se_cmp, bo_sub, e36, Option.bind_some, bo_int, se_int, Option.bind_some]
          show (opC .lt (.int (r : Nat)) (.int ((1 : Nat) : Int))).map D.bl = _
          rw [opC_lt, dlt_nat, decide_eq_false (by omega)]; rfl), exs_nil])
  have hf := hloop1.2
  rw [Nat.zero_add] at hf
  have hl1 := hloop1.1
  rw [hf, List.take_of_length_le (Nat.le_refl _)] at hl1
  rw [exs_for (vs := [.lst ((conts s.caps).map dT)]) (by rw [se_cons, se_var, se_nil]; rfl) rfl hl1]
  have hc7 := ev_compA (G := G) (env := kenv ns s (.val (.lst ((conts s.caps).map dT))) (.own (dLR s)) (.val (.tup ((flo s).map dT))) (.val (.tup ((wor s).map dT))) .unk .unk .unk) (e := .sub (.var 3) (.var 6)) (t := .name 6) (k := .seq) (es := [(.var 2)]) (c := .val (.cmp .isnt (.sub (.var 3) (.var 6)) .non)) (own := [6]) (vs := [.lst ((conts s.caps).map dT)]) (conts s.caps) dT (fun c => .int (((rk s c).getD 0 : Nat) : Int)) (fun c => (rk s c).isSome) (by rw [sb_cons, bo_var, sb_nil]; rfl) rfl (line_pos (by omega)) fun x hx => by
    have hx := mem_conts.mp hx
    have e36 : ev G (kenv ns s (.val (.lst ((conts s.caps).map dT))) (.own (dLR s)) (.val (.tup ((flo s).map dT))) (.val (.tup ((wor s).map dT))) (.val (dT x)) .unk .unk) (.sub (.var 3) (.var 6)) = some (oD (rk s x)) := by
      rw [se_sub, bo_var, se_var]
      exact sub_LR S hx
    refine ⟨_, x_bindN, ?_, fun q => ?_⟩
    · simp only [x_kill1, x_kill0, List.set_cons_succ, List.set_cons_zero]
      exact ts_val (x := .bl (rk s x).isSome) (by rw [bo_cmp, bl_isnt (o := rk s x) (by rw [bo_sub, e36])]; cases rk s x <;> rfl) rfl
    · simp only [x_kill1, x_kill0, List.set_cons_succ, List.set_cons_zero]
      rw [e36]
      obtain ⟨r, e⟩ := Option.isSome_iff_exists.mp q
      rw [e]; rfl
  have e7 : ev G (kenv ns s (.val (.lst ((conts s.caps).map dT))) (.own (dLR s)) (.val (.tup ((flo s).map dT))) (.val (.tup ((wor s).map dT))) .unk .unk .unk) (.b1 .sset (.comp (.sub (.var 3) (.var 6)) (.name 6) .seq [(.var 2)] [(.val (.cmp .isnt (.sub (.var 3) (.var 6)) .non))] [6])) = some (.lst (dV ((List.range (Tn s)).map fun k => 1 + k))) := by
    refine ev_b1c hc7 ?_
    have hfi := List.length_filter_le (fun c => (rk s c).isSome) (conts s.caps)
    show (D.ints (((conts s.caps).filter fun c => (rk s c).isSome).map fun c => .int (((rk s c).getD 0 : Nat) : Int))).bind _ = _
    rw [show (((conts s.caps).filter fun c => (rk s c).isSome).map fun c => D.int (((rk s c).getD 0 : Nat) : Int)) = (((conts s.caps).filter fun c => (rk s c).isSome).map fun c => (((rk s c).getD 0 : Nat) : Int)).map .int by rw [List.map_map]; rfl, ints_map, Option.bind_some]
    rw [if_pos (by rw [List.length_map]; omega), set_ranks S]
    unfold dV
    rw [List.map_map, List.map_map]; rfl
  rw [exs_asg e7]
  simp only [List.set_cons_succ, List.set_cons_zero]
  have hT := Nat.le_trans (Tn_le s) few
  have hnl : ((List.range (Tn s)).map fun k => 1 + k).length = Tn s := by simp
  generalize hE : ([.val (.scr ns), .val (dSh s), .val (.lst ((conts s.caps).map dT)), .own (dLR s), .val (.tup ((flo s).map dT)), .val (.tup ((wor s).map dT)), .unk, .val (.lst (dV ((List.range (Tn s)).map fun k => 1 + k))), .unk] : Env) = E0
  have b5 : Env.bor E0 5 = some (.tup ((wor s).map dT)) := by rw [← hE]; rfl
  have b7 : Env.bor E0 7 = some (.lst (dV ((List.range (Tn s)).map fun k => 1 + k))) := by rw [← hE]; rfl
  have el7 : ev G E0 (.b1 .len (.var 7)) = some (.int (Tn s : Nat)) := ev_b1 (x := .lst (dV ((List.range (Tn s)).map fun k => 1 + k))) (by rw [bo_var, b7]) (by rw [opU_lenL, dV_len, hnl])
  have hwT : decide (0 < (wor s).length) = decide (0 < Tn s) := by
    by_cases q : 0 < Tn s
    · obtain ⟨m, h1, _⟩ := worst_top S q
      rw [decide_eq_true q, decide_eq_true (show 0 < (wor s).length from List.length_pos_of_mem h1)]
    · have := worst_none S (show Tn s = 0 by omega)
      have h0 : wor s = [] := this
      rw [h0, decide_eq_false q]; rfl
  have tA : ts G E0 (.val (.cmp .ne (.var 7) (.ofw true .r2 [(.int 1), (.bin .add (.b1 .len (.var 7)) (.int 1))]))) = some false := by
    refine ts_val (x := .bl false) ?_ rfl
    have eo : ev G E0 (.ofw true .r2 [(.int 1), (.bin .add (.b1 .len (.var 7)) (.int 1))]) = some (.lst (dV ((List.range (Tn s)).map fun k => 1 + k))) := by
      have ea : evB G E0 [(.int 1), (.bin .add (.b1 .len (.var 7)) (.int 1))] = some [.int ((1 : Nat) : Int), .int ((Tn s + 1 : Nat) : Int)] := by
        rw [sb_cons, bo_int, se_int, sb_cons, bo_bin, ev_bin_of (x := .int (Tn s : Nat)) (y := .int ((1 : Nat) : Int)) (by rw [bo_b1, el7]) (by rw [bo_int, se_int]; rfl) opB_addN, sb_nil]; rfl
      rw [ev, ea, Option.bind_some]
      show ((walk .r2 [.int ((1 : Nat) : Int), .int ((Tn s + 1 : Nat) : Int)]).bind _) = _
      rw [walk_r2 (by omega) (by omega), Option.bind_some, show Tn s + 1 - 1 = Tn s by omega, if_pos (line_pos (by simp; omega))]
      unfold dV
      rw [List.map_map]; rfl
    rw [bo_cmp, se_cmp, bo_var, b7, Option.bind_some, bo_oth (by simp), eo, Option.bind_some, ne_self]; rfl
  have tB : ts G E0 (.val (.cmp .ne (.cmp .gt (.b1 .len (.var 5)) (.int 0)) (.cmp .gt (.b1 .len (.var 7)) (.int 0)))) = some false := by
    refine ts_val (x := .bl false) ?_ rfl
    rw [bo_cmp, se_cmp, bo_cmp, ev_gt0 b5, Option.bind_some, bo_cmp, ev_gt0L b7, Option.bind_some, hnl, ne_bl, hwT, beq_self_eq_true]; rfl
  rw [exs_skip (ts_orF tA tB)]
  have tC : ts G E0 (.and (.val (.cmp .gt (.b1 .len (.var 5)) (.int 0))) (.val (.cmp .notin (.b1 .len (.var 7)) (.comp (.sub (.var 3) (.var 6)) (.name 6) .seq [(.var 5)] [] [6])))) = some false := by
    have a1 : ts G E0 (.val (.cmp .gt (.b1 .len (.var 5)) (.int 0))) = some (decide (0 < Tn s)) := ts_val (x := .bl (decide (0 < Tn s))) (by rw [bo_cmp, ev_gt0 b5, hwT]) rfl
    by_cases q : 0 < Tn s
    · rw [decide_eq_true q] at a1
      refine ts_andT a1 (ts_val (x := .bl false) ?_ rfl)
      have hc : ev G E0 (.comp (.sub (.var 3) (.var 6)) (.name 6) .seq [(.var 5)] [] [6]) = some (.lst ((wor s).map fun m => oD (rk s m))) := by
        refine ev_compM (wor s) dT (fun m => oD (rk s m)) (vs := [.tup ((wor s).map dT)]) (by rw [sb_cons, bo_var, b5, sb_nil]; rfl) rfl (line_pos (by omega)) fun m hm => ⟨_, x_bindN, ?_⟩
        rw [← hE]
        simp only [x_kill1, x_kill0, List.set_cons_succ, List.set_cons_zero]
        rw [se_sub, bo_var, se_var]
        exact sub_LR S (hwo m hm)
      obtain ⟨m, h1, h2⟩ := worst_top S q
      have hin : D.isIn (.int (Tn s : Nat)) (.lst ((wor s).map fun m => oD (rk s m))) = some true := by
        rw [show ((wor s).map fun m => oD (rk s m)) = ((wor s).map (rk s)).map oD by rw [List.map_map]; rfl, isIn_intO]
        congr 1
        exact List.any_eq_true.mpr ⟨some (Tn s), List.mem_map.mpr ⟨m, h1, h2⟩, decide_eq_true rfl⟩
      rw [bo_cmp, se_cmp, bo_b1, el7, Option.bind_some, bo_comp, hc, Option.bind_some]
      show ((D.isIn (.int (Tn s : Nat)) (.lst ((wor s).map fun m => oD (rk s m)))).map not).map D.bl = _
      rw [hin]; rfl
    · rw [decide_eq_false q] at a1
      exact ts_andF a1
  rw [exs_skip tC]
  subst hE
  have hstep : ∀ (O : Cell), (O = .own (dLR s) ∨ O = .val (dLR s)) → ∀ x, leV x s.caps = true → ∃ e', ((bind (.name 6) (dT x) (kenv ns s (.val (.lst ((conts s.caps).map dT))) O (.val (.tup ((flo s).map dT))) (.val (.tup ((wor s).map dT))) .unk (.val (.lst (dV ((List.range (Tn s)).map fun k => 1 + k)))) .unk)).bind fun e' => exs G GI e' [.frz 3, .ifs (.or (.val (.cmp .ne (.cmp .is (.sub (.var 3) (.var 6)) .non) (.call 89 [(.var 6), (.var 4)]))) (.not (.val (.call 93 [(.var 1), (.var 3), (.var 6)])))) [.ret (.bl false)] []]) = some (.nx, e') ∧ e'.kill [6] = kenv ns s (.val (.lst ((conts s.caps).map dT))) (.val (dLR s)) (.val (.tup ((flo s).map dT))) (.val (.tup ((wor s).map dT))) .unk (.val (.lst (dV ((List.range (Tn s)).map fun k => 1 + k)))) .unk := fun O hO x hx => by
    refine ⟨kenv ns s (.val (.lst ((conts s.caps).map dT))) (.val (dLR s)) (.val (.tup ((flo s).map dT))) (.val (.tup ((wor s).map dT))) (.val (dT x)) (.val (.lst (dV ((List.range (Tn s)).map fun k => 1 + k)))) .unk, ?_, rfl⟩
    rw [x_bindN, Option.bind_some]
    simp only [List.set_cons_succ, List.set_cons_zero]
    rw [exs_frz (d := dLR s) (by rcases hO with rfl | rfl <;> rfl)]
    simp only [List.set_cons_succ, List.set_cons_zero]
    have e36 : ev G (kenv ns s (.val (.lst ((conts s.caps).map dT))) (.val (dLR s)) (.val (.tup ((flo s).map dT))) (.val (.tup ((wor s).map dT))) (.val (dT x)) (.val (.lst (dV ((List.range (Tn s)).map fun k => 1 + k)))) .unk) (.sub (.var 3) (.var 6)) = some (oD (rk s x)) := by
      rw [se_sub, bo_var, se_var]
      exact sub_LR S hx
    rw [exs_skip (ts_orF (ts_val (x := .bl false) (by
      rw [bo_cmp, se_cmp, bo_cmp, bl_is (o := rk s x) (by rw [bo_sub, e36]), Option.bind_some, bo_call, ev_call (ds := [dT x, .tup ((flo s).map dT)]) (by rw [se_cons, se_var, se_cons, se_var, se_nil]; rfl) (h89 hx hfl hfll), Option.bind_some, ne_bl]
      rw [show ((flo s).any fun o => leV o x) = (rk s x).isNone from (safe_above S hx).symm, beq_self_eq_true]; rfl) rfl) (ts_not (c := true) (ts_call' (ev_call (ds := [dSh s, dLR s, dT x]) (by rw [se_cons, se_var, se_cons, se_var, se_cons, se_var, se_nil]; rfl) (h93 hx))) rfl)), exs_nil]
  have hcne : ∃ x xs, conts s.caps = x :: xs := by
    cases q : conts s.caps with
    | nil =>
      have : s.caps ∈ conts s.caps := mem_conts.mpr (leV_refl _)
      rw [q] at this; cases this
    | cons x xs => exact ⟨x, xs, rfl⟩
  obtain ⟨x0, xs, hcx⟩ := hcne
  have hloop2 := forL_first (step := fun d e => (bind (.name 6) d e).bind fun e' => exs G GI e' [.frz 3, .ifs (.or (.val (.cmp .ne (.cmp .is (.sub (.var 3) (.var 6)) .non) (.call 89 [(.var 6), (.var 4)]))) (.not (.val (.call 93 [(.var 1), (.var 3), (.var 6)])))) [.ret (.bl false)] []]) (kl := [6]) (env0 := kenv ns s (.val (.lst ((conts s.caps).map dT))) (.own (dLR s)) (.val (.tup ((flo s).map dT))) (.val (.tup ((wor s).map dT))) .unk (.val (.lst (dV ((List.range (Tn s)).map fun k => 1 + k)))) .unk)
    (env1 := kenv ns s (.val (.lst ((conts s.caps).map dT))) (.val (dLR s)) (.val (.tup ((flo s).map dT))) (.val (.tup ((wor s).map dT))) .unk (.val (.lst (dV ((List.range (Tn s)).map fun k => 1 + k)))) .unk) rfl (x := dT x0) (xs := xs.map dT) (hstep _ (.inl rfl) x0 (mem_conts.mp (by rw [hcx]; exact List.mem_cons_self ..))) (fun y hy => by
      obtain ⟨z, hz, rfl⟩ := List.mem_map.mp hy
      exact hstep _ (.inr rfl) z (mem_conts.mp (by rw [hcx]; exact List.mem_cons_of_mem _ hz)))
  rw [← List.map_cons, ← hcx] at hloop2
  rw [exs_for (vs := [.lst ((conts s.caps).map dT)]) (by rw [se_cons, se_var, se_nil]; rfl) rfl hloop2]
  rw [exs_asg (ev_call (ds := [dT s.vs, dT s.caps, .tup (s.ks.map dKd)]) (by rw [se_cons, ev_fld0 rfl, se_cons, ev_fld1 rfl, se_cons, ev_fld2 rfl, se_nil]; rfl) h86)]
  simp only [List.set_cons_succ, List.set_cons_zero]
  rw [exs_skip (ts_not (c := true) (ts_call' (ev_call (ds := [.tup ((leastV (rooms s)).map dT), dT s.caps]) (by rw [se_cons, se_var, se_cons, ev_fld1 rfl, se_nil]; rfl) (h90 hro))) rfl)]
  generalize hE : ([.val (.scr ns), .val (dSh s), .val (.lst ((conts s.caps).map dT)), .val (dLR s), .val (.tup ((flo s).map dT)), .val (.tup ((wor s).map dT)), .unk, .val (.lst (dV ((List.range (Tn s)).map fun k => 1 + k))), .val (.tup ((leastV (rooms s)).map dT))] : Env) = E1
  have c1 : Env.bor E1 1 = some (dSh s) := by rw [← hE]; rfl
  have c4 : Env.bor E1 4 = some (.tup ((flo s).map dT)) := by rw [← hE]; rfl
  have e3 : ev G E1 (.sub (.var 3) (.sub (.var 1) (.int 1))) = some (oD (rk s s.caps)) := by
    rw [se_sub, ev_fld1 c1, bo_var, ← hE]
    exact sub_LR S (leV_refl _)
  have hfc := floats_caps S
  have hrc := rooms_caps S
  rw [exs_ret (d := .bl true) (by
    have a1 : ev G E1 (.cmp .eq (.cmp .is (.sub (.var 3) (.sub (.var 1) (.int 1))) .non) (.cmp .gt (.b1 .len (.var 4)) (.int 0))) = some (.bl true) := by
      rw [se_cmp, bo_cmp, bl_is (o := rk s s.caps) (by rw [bo_sub, e3]), Option.bind_some, bo_cmp, ev_gt0 c4, Option.bind_some, eq_bl, hfc]
      show some (D.bl (decide (0 < (flo s).length) == decide (0 < (flo s).length))) = _
      rw [beq_self_eq_true]
    have a2 : ev G E1 (.cmp .eq (.cmp .gt (.b1 .len (.var 4)) (.int 0)) (.call 89 [(.sub (.var 1) (.int 1)), (.var 8)])) = some (.bl true) := by
      rw [se_cmp, bo_cmp, ev_gt0 c4, Option.bind_some, bo_call, ev_call (ds := [dT s.caps, .tup ((leastV (rooms s)).map dT)]) (by rw [se_cons, ev_fld1 c1, se_cons, se_var, ← hE, se_nil]; rfl) (h89 (leV_refl _) hro hrol), Option.bind_some, eq_bl, ← hrc, hfc]
      show some (D.bl (decide (0 < (flo s).length) == decide (0 < (flo s).length))) = _
      rw [beq_self_eq_true]
    exact ev_andT a1 a2)]
  rfl
theorem law_true (ns : List Int) (hns : ns.length ≤ 63) : run defs 40 94 [.scr ns] = some (.bl true) := by
  refine run_of (c := 39) (fn := f_law) rfl rfl rfl ?_
  obtain ⟨ws, hws, h8⟩ := run_rowN (defs := defs) rfl rfl 37 ns 24 (by decide)
  obtain ⟨s, S, few, h87⟩ := r87 38 hws
  have hn3 : s.caps.length ≤ 3 := by have := S.nc; have := S.nv; omega
  have h88 := r88 38 (caps := s.caps) S.c3 hn3
  have h81 := r81 S 33
  have h82 := r82 S 33
  have h90 := fun {l : List (List Nat)} (h : ∀ o ∈ l, leV o s.caps = true) => r90 37 (l := l) (caps := s.caps) h (by omega)
  have h84 := fun x => r84 S 33 x
  have h9 := fun i => run_is_int (defs := defs) rfl 38 i
  have h89 := fun {l : List (List Nat)} {x : List Nat} (hx : leV x s.caps = true) (hl : ∀ o ∈ l, leV o s.caps = true) (hz : l.length ≤ 16) => r89 38 (l := l) (x := x) (fun o ho => (leV_len (hl o ho)).trans (leV_len hx).symm) (by have := leV_len hx; omega) (by omega)
  have h93 := fun {x : List Nat} (hx : leV x s.caps = true) => r93 S 32 hx
  have h86 := r86 S 32
  generalize run defs 39 = G at *
  generalize runI defs 39 = GI
  show retD (exs G GI [.val (.scr ns), .unk, .unk, .unk, .unk, .unk, .unk, .unk, .unk] (.asg 1 _ :: f_law.body.drop 1)) = _
  rw [exs_asg (ev_call (ds := [.lst (dV ws)]) (by rw [se_cons, ev_call (ds := [.scr ns, .int (24 : Nat)]) (by simp) h8, se_nil]; rfl) h87)]
  exact law_tail S few ns h88 h81 h82 h90 h84 h9 h89 h93 h86
end Rx
end

section
set_option Elab.async false
set_option linter.all false
set_option maxRecDepth 100000
set_option autoImplicit false
namespace Rx
/-! ### the walk -/
open PySem PySem.Spec PyProof.Rows L2
def topS (i : Nat) : Stmt := PySem.Challenge.pw_changeforall_k73_whole_ranks_of_tills.main.body.getD i (.Pass ⟨0, 0, 0, 0⟩)
abbrev st_is_at_least : Stmt := topS 1
abbrev N_is_at_least : List Str := ["first", "second", "one", "other"]
abbrev P_is_at_least : List Str := ["first", "second"]
theorem sc_is_at_least : FnScope N_is_at_least P_is_at_least (defScope st_is_at_least) := ⟨rfl, rfl, rfl, by decide +kernel, rfl, by decide +kernel, by decide +kernel⟩
abbrev st_sum_of : Stmt := topS 3
abbrev N_sum_of : List Str := ["coinage", "purse", "value", "count"]
abbrev P_sum_of : List Str := ["coinage", "purse"]
theorem sc_sum_of : FnScope N_sum_of P_sum_of (defScope st_sum_of) := ⟨rfl, rfl, rfl, by decide +kernel, rfl, by decide +kernel, by decide +kernel⟩
abbrev st_due_of : Stmt := topS 5
abbrev N_due_of : List Str := ["shop", "kind", "coinage", "caps", "kinds", "given", "price"]
abbrev P_due_of : List Str := ["shop", "kind"]
theorem sc_due_of : FnScope N_due_of P_due_of (defScope st_due_of) := ⟨rfl, rfl, rfl, by decide +kernel, rfl, by decide +kernel, by decide +kernel⟩
abbrev st_with_given : Stmt := topS 6
abbrev N_with_given : List Str := ["shop", "content", "kind", "have", "more"]
abbrev P_with_given : List Str := ["shop", "content", "kind"]
theorem sc_with_given : FnScope N_with_given P_with_given (defScope st_with_given) := ⟨rfl, rfl, rfl, by decide +kernel, rfl, by decide +kernel, by decide +kernel⟩
abbrev st_changes : Stmt := topS 7
abbrev N_changes : List Str := ["shop", "content", "kind", "there", "rows", "due", "value", "count", "row", "paid", "taken"]
abbrev P_changes : List Str := ["shop", "content", "kind"]
theorem sc_changes : FnScope N_changes P_changes (defScope st_changes) := ⟨rfl, rfl, rfl, by decide +kernel, rfl, by decide +kernel, by decide +kernel⟩
abbrev st_behind : Stmt := topS 8
abbrev N_behind : List Str := ["shop", "content", "kind", "change", "there", "cap", "have", "less"]
abbrev P_behind : List Str := ["shop", "content", "kind", "change"]
theorem sc_behind : FnScope N_behind P_behind (defScope st_behind) := ⟨rfl, rfl, rfl, by decide +kernel, rfl, by decide +kernel, by decide +kernel⟩
abbrev st_serve : Stmt := topS 9
abbrev N_serve : List Str := ["shop", "content", "kind", "change", "there", "less", "have"]
abbrev P_serve : List Str := ["shop", "content", "kind", "change"]
theorem sc_serve : FnScope N_serve P_serve (defScope st_serve) := ⟨rfl, rfl, rfl, by decide +kernel, rfl, by decide +kernel, by decide +kernel⟩
abbrev st_contents_of : Stmt := topS 11
abbrev N_contents_of : List Str := ["caps", "rows", "cap", "row", "count"]
abbrev P_contents_of : List Str := ["caps"]
theorem sc_contents_of : FnScope N_contents_of P_contents_of (defScope st_contents_of) := ⟨rfl, rfl, rfl, by decide +kernel, rfl, by decide +kernel, by decide +kernel⟩
abbrev st_ways_of : Stmt := topS 12
abbrev N_ways_of : List Str := ["shop", "kinds", "ways", "content", "rows", "kind", "change"]
abbrev P_ways_of : List Str := ["shop"]
theorem sc_ways_of : FnScope N_ways_of P_ways_of (defScope st_ways_of) := ⟨rfl, rfl, rfl, by decide +kernel, rfl, by decide +kernel, by decide +kernel⟩
abbrev st_ranks_of : Stmt := topS 13
abbrev N_ranks_of : List Str := ["shop", "ways", "ranks", "turn", "found", "fresh", "content", "row", "there"]
abbrev P_ranks_of : List Str := ["shop"]
theorem sc_ranks_of : FnScope N_ranks_of P_ranks_of (defScope st_ranks_of) := ⟨rfl, rfl, rfl, by decide +kernel, rfl, by decide +kernel, by decide +kernel⟩
abbrev st_is_safe : Stmt := topS 14
abbrev N_is_safe : List Str := ["shop", "content"]
abbrev P_is_safe : List Str := ["shop", "content"]
theorem sc_is_safe : FnScope N_is_safe P_is_safe (defScope st_is_safe) := ⟨rfl, rfl, rfl, by decide +kernel, rfl, by decide +kernel, by decide +kernel⟩
abbrev st_least_of : Stmt := topS 15
abbrev N_least_of : List Str := ["rows", "row", "other"]
abbrev P_least_of : List Str := ["rows"]
theorem sc_least_of : FnScope N_least_of P_least_of (defScope st_least_of) := ⟨rfl, rfl, rfl, by decide +kernel, rfl, by decide +kernel, by decide +kernel⟩
abbrev st_greatest_of : Stmt := topS 16
abbrev N_greatest_of : List Str := ["rows", "row", "other"]
abbrev P_greatest_of : List Str := ["rows"]
theorem sc_greatest_of : FnScope N_greatest_of P_greatest_of (defScope st_greatest_of) := ⟨rfl, rfl, rfl, by decide +kernel, rfl, by decide +kernel, by decide +kernel⟩
abbrev st_least_floats : Stmt := topS 17
abbrev N_least_floats : List Str := ["shop", "ranks", "content"]
abbrev P_least_floats : List Str := ["shop"]
theorem sc_least_floats : FnScope N_least_floats P_least_floats (defScope st_least_floats) := ⟨rfl, rfl, rfl, by decide +kernel, rfl, by decide +kernel, by decide +kernel⟩
abbrev st_greatest_unsafe : Stmt := topS 18
abbrev N_greatest_unsafe : List Str := ["shop", "ranks", "content"]
abbrev P_greatest_unsafe : List Str := ["shop"]
theorem sc_greatest_unsafe : FnScope N_greatest_unsafe P_greatest_unsafe (defScope st_greatest_unsafe) := ⟨rfl, rfl, rfl, by decide +kernel, rfl, by decide +kernel, by decide +kernel⟩
abbrev st_holds_one : Stmt := topS 19
abbrev N_holds_one : List Str := ["content", "floats", "one"]
abbrev P_holds_one : List Str := ["content", "floats"]
theorem sc_holds_one : FnScope N_holds_one P_holds_one (defScope st_holds_one) := ⟨rfl, rfl, rfl, by decide +kernel, rfl, by decide +kernel, by decide +kernel⟩
abbrev st_fails_within : Stmt := topS 20
abbrev N_fails_within : List Str := ["shop", "content"]
abbrev P_fails_within : List Str := ["shop", "content"]
theorem sc_fails_within : FnScope N_fails_within P_fails_within (defScope st_fails_within) := ⟨rfl, rfl, rfl, by decide +kernel, rfl, by decide +kernel, by decide +kernel⟩
abbrev st_breaker : Stmt := topS 21
abbrev N_breaker : List Str := ["shop", "content", "ranks", "kind", "there", "change", "one"]
abbrev P_breaker : List Str := ["shop", "content"]
theorem sc_breaker : FnScope N_breaker P_breaker (defScope st_breaker) := ⟨rfl, rfl, rfl, by decide +kernel, rfl, by decide +kernel, by decide +kernel⟩
abbrev st_least_caps : Stmt := topS 22
abbrev N_least_caps : List Str := ["coinage", "caps", "kinds", "good", "room"]
abbrev P_least_caps : List Str := ["coinage", "caps", "kinds"]
theorem sc_least_caps : FnScope N_least_caps P_least_caps (defScope st_least_caps) := ⟨rfl, rfl, rfl, by decide +kernel, rfl, by decide +kernel, by decide +kernel⟩
abbrev st_law_mixed : Stmt := topS 24
abbrev N_law_mixed : List Str := ["script", "k", "cell", "first", "second", "third"]
abbrev P_law_mixed : List Str := ["script", "k"]
theorem sc_law_mixed : FnScope N_law_mixed P_law_mixed (defScope st_law_mixed) := ⟨rfl, rfl, rfl, by decide +kernel, rfl, by decide +kernel, by decide +kernel⟩
abbrev st_law_row : Stmt := topS 25
abbrev N_law_row : List Str := ["script", "many", "big", "row", "k"]
abbrev P_law_row : List Str := ["script", "many"]
theorem sc_law_row : FnScope N_law_row P_law_row (defScope st_law_row) := ⟨rfl, rfl, rfl, by decide +kernel, rfl, by decide +kernel, by decide +kernel⟩
abbrev st_law_is_int : Stmt := topS 26
abbrev N_law_is_int : List Str := ["value"]
abbrev P_law_is_int : List Str := ["value"]
theorem sc_law_is_int : FnScope N_law_is_int P_law_is_int (defScope st_law_is_int) := ⟨rfl, rfl, rfl, by decide +kernel, rfl, by decide +kernel, by decide +kernel⟩
abbrev st_law_like : Stmt := topS 27
abbrev N_law_like : List Str := ["value", "due", "k"]
abbrev P_law_like : List Str := ["value", "due"]
theorem sc_law_like : FnScope N_law_like P_law_like (defScope st_law_like) := ⟨rfl, rfl, rfl, by decide +kernel, rfl, by decide +kernel, by decide +kernel⟩
abbrev st_law_shop : Stmt := topS 28
abbrev N_law_shop : List Str := ["row", "values", "rooms", "caps", "kinds", "k", "given", "whole", "j"]
abbrev P_law_shop : List Str := ["row"]
theorem sc_law_shop : FnScope N_law_shop P_law_shop (defScope st_law_shop) := ⟨rfl, rfl, rfl, by decide +kernel, rfl, by decide +kernel, by decide +kernel⟩
abbrev st_law_contents : Stmt := topS 29
abbrev N_law_contents : List Str := ["caps", "rows", "cap", "grown", "row", "count"]
abbrev P_law_contents : List Str := ["caps"]
theorem sc_law_contents : FnScope N_law_contents P_law_contents (defScope st_law_contents) := ⟨rfl, rfl, rfl, by decide +kernel, rfl, by decide +kernel, by decide +kernel⟩
abbrev st_law_above : Stmt := topS 30
abbrev N_law_above : List Str := ["content", "rows", "one", "k"]
abbrev P_law_above : List Str := ["content", "rows"]
theorem sc_law_above : FnScope N_law_above P_law_above (defScope st_law_above) := ⟨rfl, rfl, rfl, by decide +kernel, rfl, by decide +kernel, by decide +kernel⟩
abbrev st_law_are_rows : Stmt := topS 31
abbrev N_law_are_rows : List Str := ["value", "caps", "one", "k", "count"]
abbrev P_law_are_rows : List Str := ["value", "caps"]
theorem sc_law_are_rows : FnScope N_law_are_rows P_law_are_rows (defScope st_law_are_rows) := ⟨rfl, rfl, rfl, by decide +kernel, rfl, by decide +kernel, by decide +kernel⟩
abbrev st_law_behind : Stmt := topS 32
abbrev N_law_behind : List Str := ["shop", "ranks", "content", "kind", "found", "change", "there"]
abbrev P_law_behind : List Str := ["shop", "ranks", "content", "kind"]
theorem sc_law_behind : FnScope N_law_behind P_law_behind (defScope st_law_behind) := ⟨rfl, rfl, rfl, by decide +kernel, rfl, by decide +kernel, by decide +kernel⟩
abbrev st_law_less : Stmt := topS 33
abbrev N_law_less : List Str := ["behind_v", "rank", "one"]
abbrev P_law_less : List Str := ["behind_v", "rank"]
theorem sc_law_less : FnScope N_law_less P_law_less (defScope st_law_less) := ⟨rfl, rfl, rfl, by decide +kernel, rfl, by decide +kernel, by decide +kernel⟩
abbrev st_law_stands : Stmt := topS 34
abbrev N_law_stands : List Str := ["shop", "ranks", "content", "rank", "kind", "rows", "one", "row"]
abbrev P_law_stands : List Str := ["shop", "ranks", "content"]
theorem sc_law_stands : FnScope N_law_stands P_law_stands (defScope st_law_stands) := ⟨rfl, rfl, rfl, by decide +kernel, rfl, by decide +kernel, by decide +kernel⟩
abbrev st_law : Stmt := topS 35
abbrev N_law : List Str := ["script", "shop", "contents", "ranks", "floats", "worst", "content", "numbers", "rooms"]
abbrev P_law : List Str := ["script"]
theorem sc_law : FnScope N_law P_law (defScope st_law) := ⟨rfl, rfl, rfl, by decide +kernel, rfl, by decide +kernel, by decide +kernel⟩
section
variable {P : Program} {w : World} {K : PySem.W.Frag} {mg : Str → Option Value} {base : Heap} {f : Addr} {cdv : Value} {A : Around} {outer : List PySem.Env} {s : Shared} {H : Hp} {E : XK} {G GI : Gm}
set_option maxHeartbeats 0 in
theorem b_is_at_least (g : GoodX (cx P w K mg base N_is_at_least "is_at_least" (defScope st_is_at_least) f cdv A outer s H E)) : PSs (cx P w K mg base N_is_at_least "is_at_least" (defScope st_is_at_least) f cdv A outer s H E) (defBody st_is_at_least) (tSs K G GI f_is_at_least.body) :=
    (s_cons (s_ret (k_all g (nb (kfz (kn_comp [("one", 2), ("other", 3)] g (kw_zip2 g (kM (xF (r_varW (pv 0))) (kM (xF (r_varW (pv 1))) m_nil))) (fun _ _ _ _ _ => (kgt (gb g) (kgc (kg 2 (gb g)) (kgc (kg 3 (gb g)) g_nil)))) (fun _ _ _ _ _ => f_nil) (fun _ _ _ _ _ => (k_cmp (c_ge (gb g) (r_varB (pv 2)) (r_varB (pv 3))))))))))
    s_nil)
set_option maxHeartbeats 0 in
theorem b_sum_of (g : GoodX (cx P w K mg base N_sum_of "sum_of" (defScope st_sum_of) f cdv A outer s H E)) : PSs (cx P w K mg base N_sum_of "sum_of" (defScope st_sum_of) f cdv A outer s H E) (defBody st_sum_of) (tSs K G GI f_sum_of.body) :=
    (s_cons (s_ret (k_sum g (nb (kfz (kn_comp [("value", 2), ("count", 3)] g (kw_zip2 g (kM (xF (r_varW (pv 0))) (kM (xF (r_varW (pv 1))) m_nil))) (fun _ _ _ _ _ => (kgt (gb g) (kgc (kg 2 (gb g)) (kgc (kg 3 (gb g)) g_nil)))) (fun _ _ _ _ _ => f_nil) (fun _ _ _ _ _ => (k_mul (r_varB (pv 2)) (r_varB (pv 3)))))))))
    s_nil)
set_option maxHeartbeats 0 in
theorem b_due_of (g : GoodX (cx P w K mg base N_due_of "due_of" (defScope st_due_of) f cdv A outer s H E)) (c_69 : Cal (cx P w K mg base N_due_of "due_of" (defScope st_due_of) f cdv A outer s H E) G "sum_of" 69 2) : PSs (cx P w K mg base N_due_of "due_of" (defScope st_due_of) f cdv A outer s H E) (defBody st_due_of) (tSs K G GI f_due_of.body) :=
    (s_cons (s_asgT (ks_asgT (r_varD (pv 0)) (kgt g (kgc (kg 2 g) (kgc (kg 3 g) (kgc (kg 4 g) g_nil))))))
    (s_cons (s_asgT (ks_asgT (k_ix g (r_varB (pv 4)) (r_varB (pv 1))) (kgt g (kgc (kg 5 g) (kgc (kg 6 g) g_nil)))))
    (s_cons (s_ret (k_sub (nb (k_call c_69 (kA (r_varD (pv 2)) (kA (r_varD (pv 5)) a_nil)))) (r_varB (pv 6))))
    s_nil)))
set_option maxHeartbeats 0 in
theorem b_with_given (g : GoodX (cx P w K mg base N_with_given "with_given" (defScope st_with_given) f cdv A outer s H E)) : PSs (cx P w K mg base N_with_given "with_given" (defScope st_with_given) f cdv A outer s H E) (defBody st_with_given) (tSs K G GI f_with_given.body) :=
    (s_cons (s_ret (k_tuple g (nb (kfz (kn_comp [("have", 3), ("more", 4)] g (kw_zip2 g (kM (xF (r_varW (pv 1))) (kM (xF (nw (k_ix g (nb (k_ix g (nb (k_ix g (r_varB (pv 0)) (nb r_int))) (r_varB (pv 2)))) (nb r_int)))) m_nil))) (fun _ _ _ _ _ => (kgt (gb g) (kgc (kg 3 (gb g)) (kgc (kg 4 (gb g)) g_nil)))) (fun _ _ _ _ _ => f_nil) (fun _ _ _ _ _ => (k_add (r_varB (pv 3)) (r_varB (pv 4)))))))))
    s_nil)
set_option maxHeartbeats 0 in
theorem b_changes (g : GoodX (cx P w K mg base N_changes "changes" (defScope st_changes) f cdv A outer s H E)) (c_70 : Cal (cx P w K mg base N_changes "changes" (defScope st_changes) f cdv A outer s H E) G "due_of" 70 2) (c_71 : Cal (cx P w K mg base N_changes "changes" (defScope st_changes) f cdv A outer s H E) G "with_given" 71 3) : PSs (cx P w K mg base N_changes "changes" (defScope st_changes) f cdv A outer s H E) (defBody st_changes) (tSs K G GI f_changes.body) :=
    (s_cons (s_asg (ks_set 3 g (k_call c_71 (kA (r_varD (pv 0)) (kA (r_varD (pv 1)) (kA (r_varD (pv 2)) a_nil))))))
    (s_cons (s_asg (ks_set 4 g (r_lst (kA (r_tup (kA (r_tup a_nil) (kA r_int a_nil))) a_nil))))
    (s_cons (s_asg (ks_set 5 g (k_call c_70 (kA (r_varD (pv 0)) (kA (r_varD (pv 2)) a_nil)))))
    (s_cons (ks_for PassesOwn.never g (kw_zip2 g (kM (xT (k_ix g (r_varB (pv 0)) (nb r_int))) (kM (xT (r_varD (pv 3))) m_nil))) (kgt g (kgc (kg 6 g) (kgc (kg 7 g) g_nil))) (s_cons (s_asg (ks_frz (ks_comp2 4 [("row", 8), ("paid", 9), ("taken", 10)] g (w_seq (xF (r_varW (pv 4)))) (fun _ _ _ _ _ => (kgt (gb g) (kgc (kg 8 (gb g)) (kgc (kg 9 (gb g)) g_nil)))) (fun _ _ _ _ _ => f_nil) (fun _ _ _ _ _ => (kw_r1 (gb g) (kM (xF (nw (k_add (r_varB (pv 7)) (nb r_int)))) m_nil))) (fun _ _ _ _ _ => (kg 10 (gb g))) (fun _ _ _ _ _ => (f_one (kt_cmp (c_le (gb g) (nb (k_add (r_varB (pv 9)) (nb (k_mul (r_varB (pv 10)) (r_varB (pv 6)))))) (r_varB (pv 5)))))) (fun _ _ _ _ _ => (r_tup (kA (k_add (r_varB (pv 8)) (nb (r_tup (kA (r_varD (pv 10)) a_nil)))) (kA (k_add (r_varB (pv 9)) (nb (k_mul (r_varB (pv 10)) (r_varB (pv 6))))) a_nil)))))))
    s_nil))
    (s_cons (s_ret (k_tuple g (nb (kfz (kn_comp [("row", 8), ("paid", 9)] g (w_seq (xF (r_varW (pv 4)))) (fun _ _ _ _ _ => (kgt (gb g) (kgc (kg 8 (gb g)) (kgc (kg 9 (gb g)) g_nil)))) (fun _ _ _ _ _ => (f_one (kt_cmp (c_eq (gb g) (r_varB (pv 9)) (r_varB (pv 5)))))) (fun _ _ _ _ _ => (r_varD (pv 8))))))))
    s_nil)))))
set_option maxHeartbeats 0 in
theorem b_behind (g : GoodX (cx P w K mg base N_behind "behind" (defScope st_behind) f cdv A outer s H E)) (c_71 : Cal (cx P w K mg base N_behind "behind" (defScope st_behind) f cdv A outer s H E) G "with_given" 71 3) : PSs (cx P w K mg base N_behind "behind" (defScope st_behind) f cdv A outer s H E) (defBody st_behind) (tSs K G GI f_behind.body) :=
    (s_cons (s_asg (ks_set 4 g (k_call c_71 (kA (r_varD (pv 0)) (kA (r_varD (pv 1)) (kA (r_varD (pv 2)) a_nil))))))
    (s_cons (s_ret (k_tuple g (nb (kfz (kn_comp [("cap", 5), ("have", 6), ("less", 7)] g (kw_zip3 g (kM (xF (nw (k_ix g (r_varB (pv 0)) (nb r_int)))) (kM (xF (r_varW (pv 4))) (kM (xF (r_varW (pv 3))) m_nil)))) (fun _ _ _ _ _ => (kgt (gb g) (kgc (kg 5 (gb g)) (kgc (kg 6 (gb g)) (kgc (kg 7 (gb g)) g_nil))))) (fun _ _ _ _ _ => f_nil) (fun _ _ _ _ _ => (k_min2 (gb g) (r_varB (pv 5)) (nb (k_sub (r_varB (pv 6)) (r_varB (pv 7)))))))))))
    s_nil))
set_option maxHeartbeats 0 in
theorem b_serve (g : GoodX (cx P w K mg base N_serve "serve" (defScope st_serve) f cdv A outer s H E)) (c_69 : Cal (cx P w K mg base N_serve "serve" (defScope st_serve) f cdv A outer s H E) G "sum_of" 69 2) (c_70 : Cal (cx P w K mg base N_serve "serve" (defScope st_serve) f cdv A outer s H E) G "due_of" 70 2) (c_71 : Cal (cx P w K mg base N_serve "serve" (defScope st_serve) f cdv A outer s H E) G "with_given" 71 3) (c_73 : Cal (cx P w K mg base N_serve "serve" (defScope st_serve) f cdv A outer s H E) G "behind" 73 4) : PSs (cx P w K mg base N_serve "serve" (defScope st_serve) f cdv A outer s H E) (defBody st_serve) (tSs K G GI f_serve.body) :=
    (s_cons (s_asg (ks_set 4 g (k_call c_71 (kA (r_varD (pv 0)) (kA (r_varD (pv 1)) (kA (r_varD (pv 2)) a_nil))))))
    (s_cons (s_if (kt_cmp (c_ne g (nb (k_call c_69 (kA (k_ix g (r_varB (pv 0)) (nb r_int)) (kA (r_varD (pv 3)) a_nil)))) (nb (k_call c_70 (kA (r_varD (pv 0)) (kA (r_varD (pv 2)) a_nil)))))) (s_cons (s_ret r_non)
    s_nil) s_nil)
    (s_cons (s_if (kt_val (nb (k_any g (nb (kfz (kn_comp [("less", 5), ("have", 6)] g (kw_zip2 g (kM (xF (r_varW (pv 3))) (kM (xF (r_varW (pv 4))) m_nil))) (fun _ _ _ _ _ => (kgt (gb g) (kgc (kg 5 (gb g)) (kgc (kg 6 (gb g)) g_nil)))) (fun _ _ _ _ _ => f_nil) (fun _ _ _ _ _ => (k_cmp (c_gt (gb g) (r_varB (pv 5)) (r_varB (pv 6))))))))))) (s_cons (s_ret r_non)
    s_nil) s_nil)
    (s_cons (s_ret (k_call c_73 (kA (r_varD (pv 0)) (kA (r_varD (pv 1)) (kA (r_varD (pv 2)) (kA (r_varD (pv 3)) a_nil))))))
    s_nil))))
set_option maxHeartbeats 0 in
theorem b_contents_of (g : GoodX (cx P w K mg base N_contents_of "contents_of" (defScope st_contents_of) f cdv A outer s H E)) : PSs (cx P w K mg base N_contents_of "contents_of" (defScope st_contents_of) f cdv A outer s H E) (defBody st_contents_of) (tSs K G GI f_contents_of.body) :=
    (s_cons (s_asg (ks_set 1 g (r_lst (kA (r_tup a_nil) a_nil))))
    (s_cons (ks_for PassesOwn.never g (w_seq (xT (r_varD (pv 0)))) (kg 2 g) (s_cons (s_asg (ks_frz (ks_comp2 1 [("row", 3), ("count", 4)] g (w_seq (xF (r_varW (pv 1)))) (fun _ _ _ _ _ => (kg 3 (gb g))) (fun _ _ _ _ _ => f_nil) (fun _ _ _ _ _ => (kw_r1 (gb g) (kM (xF (nw (k_add (r_varB (pv 2)) (nb r_int)))) m_nil))) (fun _ _ _ _ _ => (kg 4 (gb g))) (fun _ _ _ _ _ => f_nil) (fun _ _ _ _ _ => (k_add (r_varB (pv 3)) (nb (r_tup (kA (r_varD (pv 4)) a_nil))))))))
    s_nil))
    (s_cons (s_ret (r_varD (pv 1)))
    s_nil)))
set_option maxHeartbeats 0 in
theorem b_ways_of (g : GoodX (cx P w K mg base N_ways_of "ways_of" (defScope st_ways_of) f cdv A outer s H E)) (c_72 : Cal (cx P w K mg base N_ways_of "ways_of" (defScope st_ways_of) f cdv A outer s H E) G "changes" 72 3) (c_73 : Cal (cx P w K mg base N_ways_of "ways_of" (defScope st_ways_of) f cdv A outer s H E) G "behind" 73 4) (c_75 : Cal (cx P w K mg base N_ways_of "ways_of" (defScope st_ways_of) f cdv A outer s H E) G "contents_of" 75 1) : PSs (cx P w K mg base N_ways_of "ways_of" (defScope st_ways_of) f cdv A outer s H E) (defBody st_ways_of) (tSs K G GI f_ways_of.body) :=
    (s_cons (s_asg (ks_set 1 g (k_rng g (nb (k_len g (nb (k_ix g (r_varB (pv 0)) (nb r_int))))))))
    (s_cons (s_asgO (ks_set 2 g n_dic0T))
    (s_cons (ks_for PassesOwn.never g (w_seq (xT (k_call c_75 (kA (k_ix g (r_varB (pv 0)) (nb r_int)) a_nil)))) (kg 3 g) (s_cons (s_asgO (ks_set 4 g (n_lst a_nil)))
    (s_cons (ks_for PassesOwn.never g (w_seq (xT (r_varD (pv 1)))) (kg 5 g) (s_cons (ks_app 4 (pv 4) (kfz (kn_comp [("change", 6)] g (w_seq (xF (nw (k_call c_72 (kA (r_varD (pv 0)) (kA (r_varD (pv 3)) (kA (r_varD (pv 5)) a_nil))))))) (fun _ _ _ _ _ => (kg 6 (gb g))) (fun _ _ _ _ _ => f_nil) (fun _ _ _ _ _ => (k_call (cb c_73) (kA (r_varD (pv 0)) (kA (r_varD (pv 3)) (kA (r_varD (pv 5)) (kA (r_varD (pv 6)) a_nil)))))))))
    s_nil))
    (s_frz (s_cons (ks_sset g (pv 2) (r_varD (pv 3)) (r_varD (pv 4)))
    s_nil)))))
    (s_frz (s_cons (s_ret (r_varD (pv 2)))
    s_nil)))))
set_option maxHeartbeats 0 in
theorem b_ranks_of (g : GoodX (cx P w K mg base N_ranks_of "ranks_of" (defScope st_ranks_of) f cdv A outer s H E)) (c_76 : Cal (cx P w K mg base N_ranks_of "ranks_of" (defScope st_ranks_of) f cdv A outer s H E) G "ways_of" 76 1) : PSs (cx P w K mg base N_ranks_of "ranks_of" (defScope st_ranks_of) f cdv A outer s H E) (defBody st_ranks_of) (tSs K G GI f_ranks_of.body) :=
    (s_cons (s_asg (ks_set 1 g (k_call c_76 (kA (r_varD (pv 0)) a_nil))))
    (s_cons (s_asgO (ks_set 2 g n_dic0T))
    (s_cons (s_asg (ks_set 3 g r_int))
    (s_cons (s_asg (ks_set 4 g r_bl))
    (s_cons (s_whl PassesOwn.never (kt_val (r_varB (pv 4))) (s_cons (ks_aug_add 3 g r_int)
    (s_cons (s_asg (ks_frz (ks_compK 5 [("content", 6)] g (pv 1) (fun _ _ _ _ _ => (kg 6 (gb g))) (fun _ _ _ _ _ => (f_one (kpt (t_and (kt_cmp (c_notin (gb g) (r_varB (pv 6)) (r_varB (pv 2)))) (pw_and1 (kt_val (nb (k_any (gb g) (nb (kfz (kn_comp [("row", 7)] (gb g) (w_seq (xF (nw (k_ix (gb g) (r_varB (pv 1)) (r_varB (pv 6)))))) (fun _ _ _ _ _ => (kg 7 (gb (gb g)))) (fun _ _ _ _ _ => f_nil) (fun _ _ _ _ _ => (k_all (gb (gb g)) (nb (kfz (kn_comp [("there", 8)] (gb (gb g)) (w_seq (xF (r_varW (pv 7)))) (fun _ _ _ _ _ => (kg 8 (gb (gb (gb g))))) (fun _ _ _ _ _ => f_nil) (fun _ _ _ _ _ => (k_cmp (c_isin (gb (gb (gb g))) (r_varB (pv 8)) (r_varB (pv 2))))))))))))))))))))) (fun _ _ _ _ _ => (r_varD (pv 6))))))
    (s_cons (ks_for PassesOwn.never g (w_seq (xT (r_varD (pv 5)))) (kg 6 g) (s_cons (ks_sset g (pv 2) (r_varD (pv 6)) (r_varD (pv 3)))
    s_nil))
    (s_cons (s_asg (ks_set 4 g (k_cmp (c_gt g (nb (k_len g (r_varB (pv 5)))) (nb r_int)))))
    s_nil)))))
    (s_frz (s_cons (s_ret (r_varD (pv 2)))
    s_nil)))))))
set_option maxHeartbeats 0 in
theorem b_is_safe (g : GoodX (cx P w K mg base N_is_safe "is_safe" (defScope st_is_safe) f cdv A outer s H E)) (c_77 : Cal (cx P w K mg base N_is_safe "is_safe" (defScope st_is_safe) f cdv A outer s H E) G "ranks_of" 77 1) : PSs (cx P w K mg base N_is_safe "is_safe" (defScope st_is_safe) f cdv A outer s H E) (defBody st_is_safe) (tSs K G GI f_is_safe.body) :=
    (s_cons (s_ret (k_cmp (c_notin g (r_varB (pv 1)) (nb (k_call c_77 (kA (r_varD (pv 0)) a_nil))))))
    s_nil)
set_option maxHeartbeats 0 in
theorem b_least_of (g : GoodX (cx P w K mg base N_least_of "least_of" (defScope st_least_of) f cdv A outer s H E)) (c_68 : Cal (cx P w K mg base N_least_of "least_of" (defScope st_least_of) f cdv A outer s H E) G "is_at_least" 68 2) : PSs (cx P w K mg base N_least_of "least_of" (defScope st_least_of) f cdv A outer s H E) (defBody st_least_of) (tSs K G GI f_least_of.body) :=
    (s_cons (s_ret (k_tuple g (nb (kfz (kn_comp [("row", 1)] g (w_seq (xF (r_varW (pv 0)))) (fun _ _ _ _ _ => (kg 1 (gb g))) (fun _ _ _ _ _ => (f_one (t_not (kt_val (nb (k_any (gb g) (nb (kfz (kn_comp [("other", 2)] (gb g) (w_seq (xF (r_varW (pv 0)))) (fun _ _ _ _ _ => (kg 2 (gb (gb g)))) (fun _ _ _ _ _ => f_nil) (fun _ _ _ _ _ => (r_and (k_cmp (c_ne (gb (gb g)) (r_varB (pv 2)) (r_varB (pv 1)))) (pe_one (k_call (cb (cb c_68)) (kA (r_varD (pv 1)) (kA (r_varD (pv 2)) a_nil))))))))))))))) (fun _ _ _ _ _ => (r_varD (pv 1))))))))
    s_nil)
set_option maxHeartbeats 0 in
theorem b_greatest_of (g : GoodX (cx P w K mg base N_greatest_of "greatest_of" (defScope st_greatest_of) f cdv A outer s H E)) (c_68 : Cal (cx P w K mg base N_greatest_of "greatest_of" (defScope st_greatest_of) f cdv A outer s H E) G "is_at_least" 68 2) : PSs (cx P w K mg base N_greatest_of "greatest_of" (defScope st_greatest_of) f cdv A outer s H E) (defBody st_greatest_of) (tSs K G GI f_greatest_of.body) :=
    (s_cons (s_ret (k_tuple g (nb (kfz (kn_comp [("row", 1)] g (w_seq (xF (r_varW (pv 0)))) (fun _ _ _ _ _ => (kg 1 (gb g))) (fun _ _ _ _ _ => (f_one (t_not (kt_val (nb (k_any (gb g) (nb (kfz (kn_comp [("other", 2)] (gb g) (w_seq (xF (r_varW (pv 0)))) (fun _ _ _ _ _ => (kg 2 (gb (gb g)))) (fun _ _ _ _ _ => f_nil) (fun _ _ _ _ _ => (r_and (k_cmp (c_ne (gb (gb g)) (r_varB (pv 2)) (r_varB (pv 1)))) (pe_one (k_call (cb (cb c_68)) (kA (r_varD (pv 2)) (kA (r_varD (pv 1)) a_nil))))))))))))))) (fun _ _ _ _ _ => (r_varD (pv 1))))))))
    s_nil)
set_option maxHeartbeats 0 in
theorem b_least_floats (g : GoodX (cx P w K mg base N_least_floats "least_floats" (defScope st_least_floats) f cdv A outer s H E)) (c_75 : Cal (cx P w K mg base N_least_floats "least_floats" (defScope st_least_floats) f cdv A outer s H E) G "contents_of" 75 1) (c_77 : Cal (cx P w K mg base N_least_floats "least_floats" (defScope st_least_floats) f cdv A outer s H E) G "ranks_of" 77 1) (c_79 : Cal (cx P w K mg base N_least_floats "least_floats" (defScope st_least_floats) f cdv A outer s H E) G "least_of" 79 1) : PSs (cx P w K mg base N_least_floats "least_floats" (defScope st_least_floats) f cdv A outer s H E) (defBody st_least_floats) (tSs K G GI f_least_floats.body) :=
    (s_cons (s_asg (ks_set 1 g (k_call c_77 (kA (r_varD (pv 0)) a_nil))))
    (s_cons (s_ret (k_call c_79 (kA (kfz (kn_comp [("content", 2)] g (w_seq (xF (nw (k_call c_75 (kA (k_ix g (r_varB (pv 0)) (nb r_int)) a_nil))))) (fun _ _ _ _ _ => (kg 2 (gb g))) (fun _ _ _ _ _ => (f_one (kt_cmp (c_notin (gb g) (r_varB (pv 2)) (r_varB (pv 1)))))) (fun _ _ _ _ _ => (r_varD (pv 2))))) a_nil)))
    s_nil))
set_option maxHeartbeats 0 in
theorem b_greatest_unsafe (g : GoodX (cx P w K mg base N_greatest_unsafe "greatest_unsafe" (defScope st_greatest_unsafe) f cdv A outer s H E)) (c_75 : Cal (cx P w K mg base N_greatest_unsafe "greatest_unsafe" (defScope st_greatest_unsafe) f cdv A outer s H E) G "contents_of" 75 1) (c_77 : Cal (cx P w K mg base N_greatest_unsafe "greatest_unsafe" (defScope st_greatest_unsafe) f cdv A outer s H E) G "ranks_of" 77 1) (c_80 : Cal (cx P w K mg base N_greatest_unsafe "greatest_unsafe" (defScope st_greatest_unsafe) f cdv A outer s H E) G "greatest_of" 80 1) : PSs (cx P w K mg base N_greatest_unsafe "greatest_unsafe" (defScope st_greatest_unsafe) f cdv A outer s H E) (defBody st_greatest_unsafe) (tSs K G GI f_greatest_unsafe.body) :=
    (s_cons (s_asg (ks_set 1 g (k_call c_77 (kA (r_varD (pv 0)) a_nil))))
    (s_cons (s_ret (k_call c_80 (kA (kfz (kn_comp [("content", 2)] g (w_seq (xF (nw (k_call c_75 (kA (k_ix g (r_varB (pv 0)) (nb r_int)) a_nil))))) (fun _ _ _ _ _ => (kg 2 (gb g))) (fun _ _ _ _ _ => (f_one (kt_cmp (c_isin (gb g) (r_varB (pv 2)) (r_varB (pv 1)))))) (fun _ _ _ _ _ => (r_varD (pv 2))))) a_nil)))
    s_nil))
set_option maxHeartbeats 0 in
theorem b_holds_one (g : GoodX (cx P w K mg base N_holds_one "holds_one" (defScope st_holds_one) f cdv A outer s H E)) (c_68 : Cal (cx P w K mg base N_holds_one "holds_one" (defScope st_holds_one) f cdv A outer s H E) G "is_at_least" 68 2) : PSs (cx P w K mg base N_holds_one "holds_one" (defScope st_holds_one) f cdv A outer s H E) (defBody st_holds_one) (tSs K G GI f_holds_one.body) :=
    (s_cons (s_ret (k_any g (nb (kfz (kn_comp [("one", 2)] g (w_seq (xF (r_varW (pv 1)))) (fun _ _ _ _ _ => (kg 2 (gb g))) (fun _ _ _ _ _ => f_nil) (fun _ _ _ _ _ => (k_call (cb c_68) (kA (r_varD (pv 0)) (kA (r_varD (pv 2)) a_nil)))))))))
    s_nil)
set_option maxHeartbeats 0 in
theorem b_fails_within (g : GoodX (cx P w K mg base N_fails_within "fails_within" (defScope st_fails_within) f cdv A outer s H E)) (c_77 : Cal (cx P w K mg base N_fails_within "fails_within" (defScope st_fails_within) f cdv A outer s H E) G "ranks_of" 77 1) : PSs (cx P w K mg base N_fails_within "fails_within" (defScope st_fails_within) f cdv A outer s H E) (defBody st_fails_within) (tSs K G GI f_fails_within.body) :=
    (s_cons (s_ret (k_get g (nb (k_call c_77 (kA (r_varD (pv 0)) a_nil))) (r_varD (pv 1))))
    s_nil)
set_option maxHeartbeats 0 in
theorem b_breaker (g : GoodX (cx P w K mg base N_breaker "breaker" (defScope st_breaker) f cdv A outer s H E)) (c_72 : Cal (cx P w K mg base N_breaker "breaker" (defScope st_breaker) f cdv A outer s H E) G "changes" 72 3) (c_73 : Cal (cx P w K mg base N_breaker "breaker" (defScope st_breaker) f cdv A outer s H E) G "behind" 73 4) (c_77 : Cal (cx P w K mg base N_breaker "breaker" (defScope st_breaker) f cdv A outer s H E) G "ranks_of" 77 1) : PSs (cx P w K mg base N_breaker "breaker" (defScope st_breaker) f cdv A outer s H E) (defBody st_breaker) (tSs K G GI f_breaker.body) :=
    (s_cons (s_asg (ks_set 2 g (k_call c_77 (kA (r_varD (pv 0)) a_nil))))
    (s_cons (s_if (kt_cmp (c_notin g (r_varB (pv 1)) (r_varB (pv 2)))) (s_cons (s_ret r_non)
    s_nil) s_nil)
    (s_cons (ks_for PassesOwn.never g (kw_r1 g (kM (xT (k_len g (nb (k_ix g (r_varB (pv 0)) (nb r_int))))) m_nil)) (kg 3 g) (s_cons (s_asg (ks_frz (ks_comp 4 [("change", 5)] g (w_seq (xF (nw (k_call c_72 (kA (r_varD (pv 0)) (kA (r_varD (pv 1)) (kA (r_varD (pv 3)) a_nil))))))) (fun _ _ _ _ _ => (kg 5 (gb g))) (fun _ _ _ _ _ => f_nil) (fun _ _ _ _ _ => (k_call (cb c_73) (kA (r_varD (pv 0)) (kA (r_varD (pv 1)) (kA (r_varD (pv 3)) (kA (r_varD (pv 5)) a_nil)))))))))
    (s_cons (s_if (kt_val (nb (k_all g (nb (kfz (kn_comp [("one", 6)] g (w_seq (xF (r_varW (pv 4)))) (fun _ _ _ _ _ => (kg 6 (gb g))) (fun _ _ _ _ _ => f_nil) (fun _ _ _ _ _ => (r_and (k_cmp (c_isin (gb g) (r_varB (pv 6)) (r_varB (pv 2)))) (pe_one (k_cmp (c_lt (gb g) (nb (k_ix (gb g) (r_varB (pv 2)) (r_varB (pv 6)))) (nb (k_ix (gb g) (r_varB (pv 2)) (r_varB (pv 1))))))))))))))) (s_cons (s_ret (r_varD (pv 3)))
    s_nil) s_nil)
    s_nil)))
    (s_cons (s_ret r_non)
    s_nil))))
set_option maxHeartbeats 0 in
theorem b_least_caps (g : GoodX (cx P w K mg base N_least_caps "least_caps" (defScope st_least_caps) f cdv A outer s H E)) (c_75 : Cal (cx P w K mg base N_least_caps "least_caps" (defScope st_least_caps) f cdv A outer s H E) G "contents_of" 75 1) (c_78 : Cal (cx P w K mg base N_least_caps "least_caps" (defScope st_least_caps) f cdv A outer s H E) G "is_safe" 78 2) (c_79 : Cal (cx P w K mg base N_least_caps "least_caps" (defScope st_least_caps) f cdv A outer s H E) G "least_of" 79 1) (c_83 : Cal (cx P w K mg base N_least_caps "least_caps" (defScope st_least_caps) f cdv A outer s H E) G "holds_one" 83 2) : PSs (cx P w K mg base N_least_caps "least_caps" (defScope st_least_caps) f cdv A outer s H E) (defBody st_least_caps) (tSs K G GI f_least_caps.body) :=
    (s_cons (s_asgO (ks_set 3 g (n_lst a_nil)))
    (s_cons (ks_for PassesOwn.never g (w_seq (xT (k_call c_75 (kA (r_varD (pv 1)) a_nil)))) (kg 4 g) (s_cons (s_if (kpt (t_and (t_not (kt_val (nb (k_callB c_83 (kM (xF (r_varW (pv 4))) (kM (xF (r_varW (pv 3))) m_nil)))))) (pw_and1 (kt_val (nb (k_call c_78 (kA (r_tup (kA (r_varD (pv 0)) (kA (r_varD (pv 4)) (kA (r_varD (pv 2)) a_nil)))) (kA (r_varD (pv 4)) a_nil)))))))) (s_cons (ks_app 3 (pv 3) (r_varD (pv 4)))
    s_nil) s_nil)
    s_nil))
    (s_frz (s_cons (s_ret (k_call c_79 (kA (r_varD (pv 3)) a_nil)))
    s_nil))))
set_option maxHeartbeats 0 in
theorem b_law_mixed (g : GoodX (cx P w K mg base N_law_mixed "_law_mixed" (defScope st_law_mixed) f cdv A outer s H E)) : PSs (cx P w K mg base N_law_mixed "_law_mixed" (defScope st_law_mixed) f cdv A outer s H E) (defBody st_law_mixed) (tSs K G GI f_law_mixed.body) :=
    (s_cons (s_asg (ks_set 2 g r_int))
    (s_cons (s_if (kt_cmp (c_gt g (nb (k_len g (r_varB (pv 0)))) (nb r_int))) (s_cons (s_asg (ks_set 2 g (k_ix g (r_varB (pv 0)) (nb (k_mod (r_varB (pv 1)) (nb (k_len g (r_varB (pv 0)))))))))
    s_nil) s_nil)
    (s_cons (s_asg (ks_set 3 g (k_mod (nb (k_int g (nb (k_add (nb (k_add (nb (k_mul (r_varB (pv 2)) (nb r_int))) (nb (k_mul (r_varB (pv 1)) (nb r_int))))) (nb r_int))))) (nb r_int))))
    (s_cons (s_asg (ks_set 4 g (k_mod (nb (k_int g (nb (k_add (nb (k_add (nb (k_mul (r_varB (pv 3)) (r_varB (pv 3)))) (nb (k_fdiv (r_varB (pv 3)) (nb r_int))))) (nb (k_mul (r_varB (pv 1)) (nb r_int))))))) (nb r_int))))
    (s_cons (s_asg (ks_set 5 g (k_mod (nb (k_int g (nb (k_add (nb (k_add (nb (k_mul (r_varB (pv 4)) (r_varB (pv 4)))) (nb (k_fdiv (r_varB (pv 4)) (nb r_int))))) (nb r_int))))) (nb r_int))))
    (s_cons (s_ret (k_mod (nb (k_fdiv (r_varB (pv 5)) (nb r_int))) (nb r_int)))
    s_nil))))))
set_option maxHeartbeats 0 in
theorem b_law_row (g : GoodX (cx P w K mg base N_law_row "_law_row" (defScope st_law_row) f cdv A outer s H E)) (c_7 : Cal (cx P w K mg base N_law_row "_law_row" (defScope st_law_row) f cdv A outer s H E) G "_law_mixed" 7 2) : PSs (cx P w K mg base N_law_row "_law_row" (defScope st_law_row) f cdv A outer s H E) (defBody st_law_row) (tSs K G GI f_law_row.body) :=
    (s_cons (s_asg (ks_set 2 g r_int))
    (s_cons (s_if (kpt (t_and (kt_cmp (c_gt g (nb (k_len g (r_varB (pv 0)))) (nb r_int))) (pw_and1 (kt_cmp (c_ge g (nb (k_ix g (r_varB (pv 0)) (nb r_int))) (nb (k_pow (nb r_int) (nb r_int)))))))) (s_cons (s_asg (ks_set 2 g (k_ix g (r_varB (pv 0)) (nb r_int))))
    s_nil) s_nil)
    (s_cons (s_asgO (ks_set 3 g (n_lst a_nil)))
    (s_cons (ks_for PassesOwn.never g (kw_r1 g (kM (xT (r_varD (pv 1))) m_nil)) (kg 4 g) (s_cons (s_if (kt_cmp (c_gt g (r_varB (pv 2)) (nb r_int))) (s_cons (ks_app 3 (pv 3) (k_mod (nb (k_int g (r_varB (pv 2)))) (nb r_int)))
    (s_cons (s_asg (ks_set 2 g (k_fdiv (r_varB (pv 2)) (nb r_int))))
    s_nil)) (s_cons (ks_app 3 (pv 3) (k_call c_7 (kA (r_varD (pv 0)) (kA (r_varD (pv 4)) a_nil))))
    s_nil))
    s_nil))
    (s_frz (s_cons (s_ret (r_varD (pv 3)))
    s_nil))))))
set_option maxHeartbeats 0 in
theorem b_law_is_int (g : GoodX (cx P w K mg base N_law_is_int "_law_is_int" (defScope st_law_is_int) f cdv A outer s H E)) : PSs (cx P w K mg base N_law_is_int "_law_is_int" (defScope st_law_is_int) f cdv A outer s H E) (defBody st_law_is_int) (tSs K G GI f_law_is_int.body) :=
    (s_cons (s_ret (r_and (k_isInt g (r_varB (pv 0))) (pe_one (r_not (nb (k_isBool g (r_varB (pv 0))))))))
    s_nil)
set_option maxHeartbeats 0 in
theorem b_law_like (g : GoodX (cx P w K mg base N_law_like "_law_like" (defScope st_law_like) f cdv A outer s H E)) (c_9 : Cal (cx P w K mg base N_law_like "_law_like" (defScope st_law_like) f cdv A outer s H E) G "_law_is_int" 9 1) (c_10 : Cal (cx P w K mg base N_law_like "_law_like" (defScope st_law_like) f cdv A outer s H E) G "_law_like" 10 2) : PSs (cx P w K mg base N_law_like "_law_like" (defScope st_law_like) f cdv A outer s H E) (defBody st_law_like) (tSs K G GI f_law_like.body) :=
    (s_cons (s_if (kt_cmp (c_is g (r_varB (pv 1)) (nb r_non))) (s_cons (s_ret (k_cmp (c_is g (r_varB (pv 0)) (nb r_non))))
    s_nil) s_nil)
    (s_cons (s_if (kt_val (nb (k_isBool g (r_varB (pv 1))))) (s_cons (s_ret (r_and (k_isBool g (r_varB (pv 0))) (pe_one (k_cmp (c_eq g (r_varB (pv 0)) (r_varB (pv 1)))))))
    s_nil) s_nil)
    (s_cons (s_if (kt_val (nb (k_isTup g (r_varB (pv 1))))) (s_cons (s_if (kpt (t_or (t_not (kt_val (nb (k_isTup g (r_varB (pv 0)))))) (pw_or1 (kt_cmp (c_ne g (nb (k_len g (r_varB (pv 0)))) (nb (k_len g (r_varB (pv 1))))))))) (s_cons (s_ret r_bl)
    s_nil) s_nil)
    (s_cons (s_ret (k_all g (nb (kfz (kn_comp [("k", 2)] g (kw_r1 g (kM (xF (nw (k_len g (r_varB (pv 1))))) m_nil)) (fun _ _ _ _ _ => (kg 2 (gb g))) (fun _ _ _ _ _ => f_nil) (fun _ _ _ _ _ => (k_call (cb c_10) (kA (k_ix (gb g) (r_varB (pv 0)) (r_varB (pv 2))) (kA (k_ix (gb g) (r_varB (pv 1)) (r_varB (pv 2))) a_nil)))))))))
    s_nil)) s_nil)
    (s_cons (s_if (kt_val (nb (k_isStr g (r_varB (pv 1))))) (s_cons (s_ret (r_and (k_isStr g (r_varB (pv 0))) (pe_one (k_cmp (c_eq g (r_varB (pv 0)) (r_varB (pv 1)))))))
    s_nil) s_nil)
    (s_cons (s_ret (r_and (k_call c_9 (kA (r_varD (pv 0)) a_nil)) (pe_one (k_cmp (c_eq g (r_varB (pv 0)) (r_varB (pv 1)))))))
    s_nil)))))
set_option maxHeartbeats 0 in
theorem b_law_shop (g : GoodX (cx P w K mg base N_law_shop "_law_shop" (defScope st_law_shop) f cdv A outer s H E)) : PSs (cx P w K mg base N_law_shop "_law_shop" (defScope st_law_shop) f cdv A outer s H E) (defBody st_law_shop) (tSs K G GI f_law_shop.body) :=
    (s_cons (ks_parN g (kp_val (k_ix g (nb (r_tup (kA (r_tup (kA r_int (kA r_int a_nil))) (kA (r_tup (kA r_int (kA r_int a_nil))) (kA (r_tup (kA r_int (kA r_int a_nil))) (kA (r_tup (kA r_int (kA r_int a_nil))) (kA (r_tup (kA r_int (kA r_int a_nil))) (kA (r_tup (kA r_int (kA r_int a_nil))) a_nil)))))))) (nb (k_mod (nb (k_int g (nb (k_ix g (r_varB (pv 0)) (nb r_int))))) (nb r_int)))) (kp_val r_int p_nil)) (pgs_cons (kgn 1 g) (pgs_cons (kgn 2 g) pgs_nil)))
    (s_cons (s_if (kt_cmp (c_eq g (nb (k_mod (nb (k_int g (nb (k_ix g (r_varB (pv 0)) (nb r_int))))) (nb r_int))) (nb r_int))) (s_cons (ks_parN g (kp_val (k_ix g (nb (r_tup (kA (r_tup (kA r_int (kA r_int (kA r_int a_nil)))) (kA (r_tup (kA r_int (kA r_int (kA r_int a_nil)))) (kA (r_tup (kA r_int (kA r_int (kA r_int a_nil)))) a_nil))))) (nb (k_mod (nb (k_int g (nb (k_ix g (r_varB (pv 0)) (nb r_int))))) (nb r_int)))) (kp_val r_int p_nil)) (pgs_cons (kgn 1 g) (pgs_cons (kgn 2 g) pgs_nil)))
    s_nil) s_nil)
    (s_cons (s_asg (ks_set 3 g (k_tuple g (nb (kfz (kn_comp [("k", 5)] g (kw_r1 g (kM (xF (nw (k_len g (r_varB (pv 1))))) m_nil)) (fun _ _ _ _ _ => (kg 5 (gb g))) (fun _ _ _ _ _ => f_nil) (fun _ _ _ _ _ => (k_mod (nb (k_int (gb g) (nb (k_ix (gb g) (r_varB (pv 0)) (nb (k_add (nb r_int) (r_varB (pv 5)))))))) (r_varB (pv 2))))))))))
    (s_cons (s_asgO (ks_set 4 g (n_lst a_nil)))
    (s_cons (ks_for PassesOwn.never g (kw_r1 g (kM (xT (k_add (nb r_int) (nb (k_mod (nb (k_int g (nb (k_ix g (r_varB (pv 0)) (nb r_int))))) (nb r_int))))) m_nil)) (kg 5 g) (s_cons (s_asg (ks_set 6 g (k_tuple g (nb (kfz (kn_comp [("j", 8)] g (kw_r1 g (kM (xF (nw (k_len g (r_varB (pv 1))))) m_nil)) (fun _ _ _ _ _ => (kg 8 (gb g))) (fun _ _ _ _ _ => f_nil) (fun _ _ _ _ _ => (k_mod (nb (k_int (gb g) (nb (k_ix (gb g) (r_varB (pv 0)) (nb (k_add (nb (k_add (nb r_int) (nb (k_mul (nb r_int) (r_varB (pv 5)))))) (r_varB (pv 8)))))))) (nb r_int)))))))))
    (s_cons (s_asg (ks_set 7 g (k_sum g (nb (kfz (kn_comp [("j", 8)] g (kw_r1 g (kM (xF (nw (k_len g (r_varB (pv 1))))) m_nil)) (fun _ _ _ _ _ => (kg 8 (gb g))) (fun _ _ _ _ _ => f_nil) (fun _ _ _ _ _ => (k_mul (nb (k_ix (gb g) (r_varB (pv 1)) (r_varB (pv 8)))) (nb (k_ix (gb g) (r_varB (pv 6)) (r_varB (pv 8))))))))))))
    (s_cons (ks_app 4 (pv 4) (r_tup (kA (r_varD (pv 6)) (kA (k_sub (r_varB (pv 7)) (nb (k_mod (nb (k_int g (nb (k_ix g (r_varB (pv 0)) (nb (k_add (nb r_int) (nb (k_mul (nb r_int) (r_varB (pv 5)))))))))) (nb (k_add (r_varB (pv 7)) (nb r_int)))))) a_nil))))
    s_nil))))
    (s_cons (s_ret (r_tup (kA (r_varD (pv 1)) (kA (r_varD (pv 3)) (kA (k_tuple g (r_varB (pv 4))) a_nil)))))
    s_nil))))))
set_option maxHeartbeats 0 in
theorem b_law_contents (g : GoodX (cx P w K mg base N_law_contents "_law_contents" (defScope st_law_contents) f cdv A outer s H E)) : PSs (cx P w K mg base N_law_contents "_law_contents" (defScope st_law_contents) f cdv A outer s H E) (defBody st_law_contents) (tSs K G GI f_law_contents.body) :=
    (s_cons (s_asg (ks_set 1 g (r_lst (kA (r_tup a_nil) a_nil))))
    (s_cons (ks_for PassesOwn.never g (w_seq (xT (r_varD (pv 0)))) (kg 2 g) (s_cons (s_asgO (ks_set 3 g (n_lst a_nil)))
    (s_cons (ks_for PassesOwn.never g (w_seq (xT (r_varD (pv 1)))) (kg 4 g) (s_cons (ks_ext 3 (pv 3) (kfz (kn_comp [("count", 5)] g (kw_r1 g (kM (xF (nw (k_add (r_varB (pv 2)) (nb r_int)))) m_nil)) (fun _ _ _ _ _ => (kg 5 (gb g))) (fun _ _ _ _ _ => f_nil) (fun _ _ _ _ _ => (k_add (r_varB (pv 4)) (nb (r_tup (kA (r_varD (pv 5)) a_nil))))))))
    s_nil))
    (s_frz (s_cons (s_asg (ks_set 1 g (r_varD (pv 3))))
    s_nil)))))
    (s_cons (s_ret (r_varD (pv 1)))
    s_nil)))
set_option maxHeartbeats 0 in
theorem b_law_above (g : GoodX (cx P w K mg base N_law_above "_law_above" (defScope st_law_above) f cdv A outer s H E)) : PSs (cx P w K mg base N_law_above "_law_above" (defScope st_law_above) f cdv A outer s H E) (defBody st_law_above) (tSs K G GI f_law_above.body) :=
    (s_cons (s_ret (k_any g (nb (kfz (kn_comp [("one", 2)] g (w_seq (xF (r_varW (pv 1)))) (fun _ _ _ _ _ => (kg 2 (gb g))) (fun _ _ _ _ _ => f_nil) (fun _ _ _ _ _ => (k_all (gb g) (nb (kfz (kn_comp [("k", 3)] (gb g) (kw_r1 (gb g) (kM (xF (nw (k_len (gb g) (r_varB (pv 0))))) m_nil)) (fun _ _ _ _ _ => (kg 3 (gb (gb g)))) (fun _ _ _ _ _ => f_nil) (fun _ _ _ _ _ => (k_cmp (c_ge (gb (gb g)) (nb (k_ix (gb (gb g)) (r_varB (pv 0)) (r_varB (pv 3)))) (nb (k_ix (gb (gb g)) (r_varB (pv 2)) (r_varB (pv 3)))))))))))))))))
    s_nil)
set_option maxHeartbeats 0 in
theorem b_law_are_rows (g : GoodX (cx P w K mg base N_law_are_rows "_law_are_rows" (defScope st_law_are_rows) f cdv A outer s H E)) (c_9 : Cal (cx P w K mg base N_law_are_rows "_law_are_rows" (defScope st_law_are_rows) f cdv A outer s H E) G "_law_is_int" 9 1) : PSs (cx P w K mg base N_law_are_rows "_law_are_rows" (defScope st_law_are_rows) f cdv A outer s H E) (defBody st_law_are_rows) (tSs K G GI f_law_are_rows.body) :=
    (s_cons (s_if (t_not (kt_val (nb (k_isTup g (r_varB (pv 0)))))) (s_cons (s_ret r_bl)
    s_nil) s_nil)
    (s_cons (ks_for PassesOwn.never g (w_seq (xT (r_varD (pv 0)))) (kg 2 g) (s_cons (s_if (kpt (t_or (t_not (kt_val (nb (k_isTup g (r_varB (pv 2)))))) (t_or (kt_cmp (c_ne g (nb (k_len g (r_varB (pv 2)))) (nb (k_len g (r_varB (pv 1)))))) (pw_or1 (t_not (kt_val (nb (k_all g (nb (kfz (kn_comp [("count", 4)] g (w_seq (xF (r_varW (pv 2)))) (fun _ _ _ _ _ => (kg 4 (gb g))) (fun _ _ _ _ _ => f_nil) (fun _ _ _ _ _ => (k_call (cb c_9) (kA (r_varD (pv 4)) a_nil)))))))))))))) (s_cons (s_ret r_bl)
    s_nil) s_nil)
    (s_cons (s_if (t_not (kt_val (nb (k_all g (nb (kfz (kn_comp [("k", 3)] g (kw_r1 g (kM (xF (nw (k_len g (r_varB (pv 1))))) m_nil)) (fun _ _ _ _ _ => (kg 3 (gb g))) (fun _ _ _ _ _ => f_nil) (fun _ _ _ _ _ => (k_chn (ck_le (gb g)) (ck_le (gb g)) (nb r_int) (nb (k_ix (gb g) (r_varB (pv 2)) (r_varB (pv 3)))) (nb (k_ix (gb g) (r_varB (pv 1)) (r_varB (pv 3))))))))))))) (s_cons (s_ret r_bl)
    s_nil) s_nil)
    s_nil)))
    (s_cons (s_ret r_bl)
    s_nil)))
set_option maxHeartbeats 0 in
theorem b_law_behind (g : GoodX (cx P w K mg base N_law_behind "_law_behind" (defScope st_law_behind) f cdv A outer s H E)) (c_72 : Cal (cx P w K mg base N_law_behind "_law_behind" (defScope st_law_behind) f cdv A outer s H E) G "changes" 72 3) (c_74 : Cal (cx P w K mg base N_law_behind "_law_behind" (defScope st_law_behind) f cdv A outer s H E) G "serve" 74 4) : PSs (cx P w K mg base N_law_behind "_law_behind" (defScope st_law_behind) f cdv A outer s H E) (defBody st_law_behind) (tSs K G GI f_law_behind.body) :=
    (s_cons (s_asgO (ks_set 4 g (n_lst a_nil)))
    (s_cons (ks_for PassesOwn.never g (w_seq (xT (k_call c_72 (kA (r_varD (pv 0)) (kA (r_varD (pv 2)) (kA (r_varD (pv 3)) a_nil)))))) (kg 5 g) (s_cons (s_asg (ks_set 6 g (k_call c_74 (kA (r_varD (pv 0)) (kA (r_varD (pv 2)) (kA (r_varD (pv 3)) (kA (r_varD (pv 5)) a_nil)))))))
    (s_cons (s_if (kt_cmp (c_notin g (r_varB (pv 6)) (r_varB (pv 1)))) (s_cons (s_ret r_non)
    s_nil) s_nil)
    (s_cons (ks_app 4 (pv 4) (k_ix g (r_varB (pv 1)) (r_varB (pv 6))))
    s_nil))))
    (s_frz (s_cons (s_ret (r_varD (pv 4)))
    s_nil))))
set_option maxHeartbeats 0 in
theorem b_law_less (g : GoodX (cx P w K mg base N_law_less "_law_less" (defScope st_law_less) f cdv A outer s H E)) : PSs (cx P w K mg base N_law_less "_law_less" (defScope st_law_less) f cdv A outer s H E) (defBody st_law_less) (tSs K G GI f_law_less.body) :=
    (s_cons (s_ret (k_all g (nb (kfz (kn_comp [("one", 2)] g (w_seq (xF (r_varW (pv 0)))) (fun _ _ _ _ _ => (kg 2 (gb g))) (fun _ _ _ _ _ => f_nil) (fun _ _ _ _ _ => (r_and (k_cmp (c_isnt (gb g) (r_varB (pv 2)) (nb r_non))) (pe_one (k_cmp (c_lt (gb g) (r_varB (pv 2)) (r_varB (pv 1))))))))))))
    s_nil)
set_option maxHeartbeats 0 in
theorem b_law_stands (g : GoodX (cx P w K mg base N_law_stands "_law_stands" (defScope st_law_stands) f cdv A outer s H E)) (c_9 : Cal (cx P w K mg base N_law_stands "_law_stands" (defScope st_law_stands) f cdv A outer s H E) G "_law_is_int" 9 1) (c_10 : Cal (cx P w K mg base N_law_stands "_law_stands" (defScope st_law_stands) f cdv A outer s H E) G "_law_like" 10 2) (c_78 : Cal (cx P w K mg base N_law_stands "_law_stands" (defScope st_law_stands) f cdv A outer s H E) G "is_safe" 78 2) (c_85 : Cal (cx P w K mg base N_law_stands "_law_stands" (defScope st_law_stands) f cdv A outer s H E) G "breaker" 85 2) (c_91 : Cal (cx P w K mg base N_law_stands "_law_stands" (defScope st_law_stands) f cdv A outer s H E) G "_law_behind" 91 4) (c_92 : Cal (cx P w K mg base N_law_stands "_law_stands" (defScope st_law_stands) f cdv A outer s H E) G "_law_less" 92 2) : PSs (cx P w K mg base N_law_stands "_law_stands" (defScope st_law_stands) f cdv A outer s H E) (defBody st_law_stands) (tSs K G GI f_law_stands.body) :=
    (s_cons (ks_parN g (kp_val (k_ix g (r_varB (pv 1)) (r_varB (pv 2))) (kp_val (k_call c_85 (kA (r_varD (pv 0)) (kA (r_varD (pv 2)) a_nil))) p_nil)) (pgs_cons (kgn 3 g) (pgs_cons (kgn 4 g) pgs_nil)))
    (s_cons (s_asg (ks_set 5 g (kfz (kn_comp [("one", 6)] g (kw_r1 g (kM (xF (nw (k_len g (nb (k_ix g (r_varB (pv 0)) (nb r_int)))))) m_nil)) (fun _ _ _ _ _ => (kg 6 (gb g))) (fun _ _ _ _ _ => f_nil) (fun _ _ _ _ _ => (k_call (cb c_91) (kA (r_varD (pv 0)) (kA (r_varD (pv 1)) (kA (r_varD (pv 2)) (kA (r_varD (pv 6)) a_nil))))))))))
    (s_cons (s_if (kpt (t_or (kt_cmp (c_isin g (nb r_non) (r_varB (pv 5)))) (pw_or1 (t_not (kt_val (nb (k_call c_10 (kA (k_call c_78 (kA (r_varD (pv 0)) (kA (r_varD (pv 2)) a_nil))) (kA (k_cmp (c_is g (r_varB (pv 3)) (nb r_non))) a_nil))))))))) (s_cons (s_ret r_bl)
    s_nil) s_nil)
    (s_cons (s_if (kt_cmp (c_is g (r_varB (pv 3)) (nb r_non))) (s_cons (s_ret (r_and (k_cmp (c_is g (r_varB (pv 4)) (nb r_non))) (pe_one (k_all g (nb (kfz (kn_comp [("row", 7)] g (w_seq (xF (r_varW (pv 5)))) (fun _ _ _ _ _ => (kg 7 (gb g))) (fun _ _ _ _ _ => f_nil) (fun _ _ _ _ _ => (k_cmp (c_isin (gb g) (nb r_non) (r_varB (pv 7))))))))))))
    s_nil) s_nil)
    (s_cons (s_if (kpt (t_or (t_not (kt_val (nb (k_call c_9 (kA (r_varD (pv 4)) a_nil))))) (t_or (t_not (kt_chn (ck_le g) (ck_lt g) (nb r_int) (r_varB (pv 4)) (nb (k_len g (r_varB (pv 5)))))) (pw_or1 (t_not (kt_val (nb (k_call c_92 (kA (k_ix g (r_varB (pv 5)) (r_varB (pv 4))) (kA (r_varD (pv 3)) a_nil)))))))))) (s_cons (s_ret r_bl)
    s_nil) s_nil)
    (s_cons (s_if (kpt (t_or (kt_cmp (c_ne g (nb (k_cmp (c_eq g (r_varB (pv 3)) (nb r_int)))) (nb (k_cmp (c_eq g (nb (k_len g (nb (k_ix g (r_varB (pv 5)) (r_varB (pv 4)))))) (nb r_int)))))) (pw_or1 (kpt (t_and (kt_cmp (c_gt g (r_varB (pv 3)) (nb r_int))) (pw_and1 (kt_cmp (c_ne g (nb (k_max g (nb (k_ix g (r_varB (pv 5)) (r_varB (pv 4)))))) (nb (k_sub (r_varB (pv 3)) (nb r_int))))))))))) (s_cons (s_ret r_bl)
    s_nil) s_nil)
    (s_cons (s_ret (r_not (nb (k_any g (nb (kfz (kn_comp [("one", 6)] g (kw_r1 g (kM (xF (r_varW (pv 4))) m_nil)) (fun _ _ _ _ _ => (kg 6 (gb g))) (fun _ _ _ _ _ => f_nil) (fun _ _ _ _ _ => (k_call (cb c_92) (kA (k_ix (gb g) (r_varB (pv 5)) (r_varB (pv 6))) (kA (r_varD (pv 3)) a_nil)))))))))))
    s_nil)))))))
set_option maxHeartbeats 0 in
theorem b_law (g : GoodX (cx P w K mg base N_law "law" (defScope st_law) f cdv A outer s H E)) (c_8 : Cal (cx P w K mg base N_law "law" (defScope st_law) f cdv A outer s H E) G "_law_row" 8 2) (c_9 : Cal (cx P w K mg base N_law "law" (defScope st_law) f cdv A outer s H E) G "_law_is_int" 9 1) (c_81 : Cal (cx P w K mg base N_law "law" (defScope st_law) f cdv A outer s H E) G "least_floats" 81 1) (c_82 : Cal (cx P w K mg base N_law "law" (defScope st_law) f cdv A outer s H E) G "greatest_unsafe" 82 1) (c_84 : Cal (cx P w K mg base N_law "law" (defScope st_law) f cdv A outer s H E) G "fails_within" 84 2) (c_86 : Cal (cx P w K mg base N_law "law" (defScope st_law) f cdv A outer s H E) G "least_caps" 86 3) (c_87 : Cal (cx P w K mg base N_law "law" (defScope st_law) f cdv A outer s H E) G "_law_shop" 87 1) (c_88 : Cal (cx P w K mg base N_law "law" (defScope st_law) f cdv A outer s H E) G "_law_contents" 88 1) (c_89 : Cal (cx P w K mg base N_law "law" (defScope st_law) f cdv A outer s H E) G "_law_above" 89 2) (c_90 : Cal (cx P w K mg base N_law "law" (defScope st_law) f cdv A outer s H E) G "_law_are_rows" 90 2) (c_93 : Cal (cx P w K mg base N_law "law" (defScope st_law) f cdv A outer s H E) G "_law_stands" 93 3) : PSs (cx P w K mg base N_law "law" (defScope st_law) f cdv A outer s H E) (defBody st_law) (tSs K G GI f_law.body) :=
    (s_cons (s_asg (ks_set 1 g (k_call c_87 (kA (k_call c_8 (kA (r_varD (pv 0)) (kA r_int a_nil))) a_nil))))
    (s_cons (ks_parN g (kp_val (k_call c_88 (kA (k_ix g (r_varB (pv 1)) (nb r_int)) a_nil)) (kp_new n_dic0T (kp_val (k_call c_81 (kA (r_varD (pv 1)) a_nil)) (kp_val (k_call c_82 (kA (r_varD (pv 1)) a_nil)) p_nil)))) (pgs_cons (kgn 2 g) (pgs_cons (kgn 3 g) (pgs_cons (kgn 4 g) (pgs_cons (kgn 5 g) pgs_nil)))))
    (s_cons (s_if (kpt (t_or (t_not (kt_val (nb (k_call c_90 (kA (r_varD (pv 4)) (kA (k_ix g (r_varB (pv 1)) (nb r_int)) a_nil)))))) (pw_or1 (t_not (kt_val (nb (k_call c_90 (kA (r_varD (pv 5)) (kA (k_ix g (r_varB (pv 1)) (nb r_int)) a_nil))))))))) (s_cons (s_ret r_bl)
    s_nil) s_nil)
    (s_cons (ks_for PassesOwn.never g (w_seq (xT (r_varD (pv 2)))) (kg 6 g) (s_cons (ks_sset g (pv 3) (r_varD (pv 6)) (k_call c_84 (kA (r_varD (pv 1)) (kA (r_varD (pv 6)) a_nil))))
    (s_cons (s_if (kpt (t_and (kt_cmp (c_isnt g (nb (k_ix g (r_varB (pv 3)) (r_varB (pv 6)))) (nb r_non))) (pw_and1 (kpt (t_or (t_not (kt_val (nb (k_call c_9 (kA (k_ix g (r_varB (pv 3)) (r_varB (pv 6))) a_nil))))) (pw_or1 (kt_cmp (c_lt g (nb (k_ix g (r_varB (pv 3)) (r_varB (pv 6)))) (nb r_int))))))))) (s_cons (s_ret r_bl)
    s_nil) s_nil)
    s_nil)))
    (s_cons (s_asg (ks_set 7 g (k_sset g (nb (kfz (kn_comp [("content", 6)] g (w_seq (xF (r_varW (pv 2)))) (fun _ _ _ _ _ => (kg 6 (gb g))) (fun _ _ _ _ _ => (f_one (kt_cmp (c_isnt (gb g) (nb (k_ix (gb g) (r_varB (pv 3)) (r_varB (pv 6)))) (nb r_non))))) (fun _ _ _ _ _ => (k_ix (gb g) (r_varB (pv 3)) (r_varB (pv 6))))))))))
    (s_cons (s_if (kpt (t_or (kt_cmp (c_ne g (r_varB (pv 7)) (nb (k_ofw_l_r2 g (kM (xF (nw r_int)) (kM (xF (nw (k_add (nb (k_len g (r_varB (pv 7)))) (nb r_int)))) m_nil)))))) (pw_or1 (kt_cmp (c_ne g (nb (k_cmp (c_gt g (nb (k_len g (r_varB (pv 5)))) (nb r_int)))) (nb (k_cmp (c_gt g (nb (k_len g (r_varB (pv 7)))) (nb r_int))))))))) (s_cons (s_ret r_bl)
    s_nil) s_nil)
    (s_cons (s_if (kpt (t_and (kt_cmp (c_gt g (nb (k_len g (r_varB (pv 5)))) (nb r_int))) (pw_and1 (kt_cmp (c_notin g (nb (k_len g (r_varB (pv 7)))) (nb (kfz (kn_comp [("content", 6)] g (w_seq (xF (r_varW (pv 5)))) (fun _ _ _ _ _ => (kg 6 (gb g))) (fun _ _ _ _ _ => f_nil) (fun _ _ _ _ _ => (k_ix (gb g) (r_varB (pv 3)) (r_varB (pv 6)))))))))))) (s_cons (s_ret r_bl)
    s_nil) s_nil)
    (s_cons (ks_for PassesOwn.never g (w_seq (xT (r_varD (pv 2)))) (kg 6 g) (s_frz (s_cons (s_if (kpt (t_or (kt_cmp (c_ne g (nb (k_cmp (c_is g (nb (k_ix g (r_varB (pv 3)) (r_varB (pv 6)))) (nb r_non)))) (nb (k_call c_89 (kA (r_varD (pv 6)) (kA (r_varD (pv 4)) a_nil)))))) (pw_or1 (t_not (kt_val (nb (k_call c_93 (kA (r_varD (pv 1)) (kA (r_varD (pv 3)) (kA (r_varD (pv 6)) a_nil)))))))))) (s_cons (s_ret r_bl)
    s_nil) s_nil)
    s_nil)))
    (s_cons (s_asg (ks_set 8 g (k_call c_86 (kA (k_ix g (r_varB (pv 1)) (nb r_int)) (kA (k_ix g (r_varB (pv 1)) (nb r_int)) (kA (k_ix g (r_varB (pv 1)) (nb r_int)) a_nil))))))
    (s_cons (s_if (t_not (kt_val (nb (k_call c_90 (kA (r_varD (pv 8)) (kA (k_ix g (r_varB (pv 1)) (nb r_int)) a_nil)))))) (s_cons (s_ret r_bl)
    s_nil) s_nil)
    (s_cons (s_ret (r_and (k_cmp (c_eq g (nb (k_cmp (c_is g (nb (k_ix g (r_varB (pv 3)) (nb (k_ix g (r_varB (pv 1)) (nb r_int))))) (nb r_non)))) (nb (k_cmp (c_gt g (nb (k_len g (r_varB (pv 4)))) (nb r_int)))))) (pe_one (k_cmp (c_eq g (nb (k_cmp (c_gt g (nb (k_len g (r_varB (pv 4)))) (nb r_int)))) (nb (k_call c_89 (kA (k_ix g (r_varB (pv 1)) (nb r_int)) (kA (r_varD (pv 8)) a_nil)))))))))
    s_nil)))))))))))
end
section
variable {P : Program} {w : World} {K : PySem.W.Frag} {mg : Str → Option Value} {base : Heap}
structure Has (K : PySem.W.Frag) (mg : Str → Option Value) : Prop where
  h_is_at_least : HasFn K mg "is_at_least" st_is_at_least P_is_at_least
  h_sum_of : HasFn K mg "sum_of" st_sum_of P_sum_of
  h_due_of : HasFn K mg "due_of" st_due_of P_due_of
  h_with_given : HasFn K mg "with_given" st_with_given P_with_given
  h_changes : HasFn K mg "changes" st_changes P_changes
  h_behind : HasFn K mg "behind" st_behind P_behind
  h_serve : HasFn K mg "serve" st_serve P_serve
  h_contents_of : HasFn K mg "contents_of" st_contents_of P_contents_of
  h_ways_of : HasFn K mg "ways_of" st_ways_of P_ways_of
  h_ranks_of : HasFn K mg "ranks_of" st_ranks_of P_ranks_of
  h_is_safe : HasFn K mg "is_safe" st_is_safe P_is_safe
  h_least_of : HasFn K mg "least_of" st_least_of P_least_of
  h_greatest_of : HasFn K mg "greatest_of" st_greatest_of P_greatest_of
  h_least_floats : HasFn K mg "least_floats" st_least_floats P_least_floats
  h_greatest_unsafe : HasFn K mg "greatest_unsafe" st_greatest_unsafe P_greatest_unsafe
  h_holds_one : HasFn K mg "holds_one" st_holds_one P_holds_one
  h_fails_within : HasFn K mg "fails_within" st_fails_within P_fails_within
  h_breaker : HasFn K mg "breaker" st_breaker P_breaker
  h_least_caps : HasFn K mg "least_caps" st_least_caps P_least_caps
  h_law_mixed : HasFn K mg "_law_mixed" st_law_mixed P_law_mixed
  h_law_row : HasFn K mg "_law_row" st_law_row P_law_row
  h_law_is_int : HasFn K mg "_law_is_int" st_law_is_int P_law_is_int
  h_law_like : HasFn K mg "_law_like" st_law_like P_law_like
  h_law_shop : HasFn K mg "_law_shop" st_law_shop P_law_shop
  h_law_contents : HasFn K mg "_law_contents" st_law_contents P_law_contents
  h_law_above : HasFn K mg "_law_above" st_law_above P_law_above
  h_law_are_rows : HasFn K mg "_law_are_rows" st_law_are_rows P_law_are_rows
  h_law_behind : HasFn K mg "_law_behind" st_law_behind P_law_behind
  h_law_less : HasFn K mg "_law_less" st_law_less P_law_less
  h_law_stands : HasFn K mg "_law_stands" st_law_stands P_law_stands
  h_law : HasFn K mg "law" st_law P_law
  bl : ∀ b ∈ blts, mg b = none
structure All (P : Program) (w : World) (K : PySem.W.Frag) (mg : Str → Option Value) (base : Heap) (k : Nat) : Prop where
  a_is_at_least : FnGood P w K mg base k "is_at_least" P_is_at_least (spD K 2 (run defs k 68))
  a_sum_of : FnGood P w K mg base k "sum_of" P_sum_of (spD K 2 (run defs k 69))
  a_due_of : FnGood P w K mg base k "due_of" P_due_of (spD K 2 (run defs k 70))
  a_with_given : FnGood P w K mg base k "with_given" P_with_given (spD K 3 (run defs k 71))
  a_changes : FnGood P w K mg base k "changes" P_changes (spD K 3 (run defs k 72))
  a_behind : FnGood P w K mg base k "behind" P_behind (spD K 4 (run defs k 73))
  a_serve : FnGood P w K mg base k "serve" P_serve (spD K 4 (run defs k 74))
  a_contents_of : FnGood P w K mg base k "contents_of" P_contents_of (spD K 1 (run defs k 75))
  a_ways_of : FnGood P w K mg base k "ways_of" P_ways_of (spD K 1 (run defs k 76))
  a_ranks_of : FnGood P w K mg base k "ranks_of" P_ranks_of (spD K 1 (run defs k 77))
  a_is_safe : FnGood P w K mg base k "is_safe" P_is_safe (spD K 2 (run defs k 78))
  a_least_of : FnGood P w K mg base k "least_of" P_least_of (spD K 1 (run defs k 79))
  a_greatest_of : FnGood P w K mg base k "greatest_of" P_greatest_of (spD K 1 (run defs k 80))
  a_least_floats : FnGood P w K mg base k "least_floats" P_least_floats (spD K 1 (run defs k 81))
  a_greatest_unsafe : FnGood P w K mg base k "greatest_unsafe" P_greatest_unsafe (spD K 1 (run defs k 82))
  a_holds_one : FnGood P w K mg base k "holds_one" P_holds_one (spD K 2 (run defs k 83))
  a_fails_within : FnGood P w K mg base k "fails_within" P_fails_within (spD K 2 (run defs k 84))
  a_breaker : FnGood P w K mg base k "breaker" P_breaker (spD K 2 (run defs k 85))
  a_least_caps : FnGood P w K mg base k "least_caps" P_least_caps (spD K 3 (run defs k 86))
  a_law_mixed : FnGood P w K mg base k "_law_mixed" P_law_mixed (spD K 2 (run defs k 7))
  a_law_row : FnGood P w K mg base k "_law_row" P_law_row (spD K 2 (run defs k 8))
  a_law_is_int : FnGood P w K mg base k "_law_is_int" P_law_is_int (spD K 1 (run defs k 9))
  a_law_like : FnGood P w K mg base k "_law_like" P_law_like (spD K 2 (run defs k 10))
  a_law_shop : FnGood P w K mg base k "_law_shop" P_law_shop (spD K 1 (run defs k 87))
  a_law_contents : FnGood P w K mg base k "_law_contents" P_law_contents (spD K 1 (run defs k 88))
  a_law_above : FnGood P w K mg base k "_law_above" P_law_above (spD K 2 (run defs k 89))
  a_law_are_rows : FnGood P w K mg base k "_law_are_rows" P_law_are_rows (spD K 2 (run defs k 90))
  a_law_behind : FnGood P w K mg base k "_law_behind" P_law_behind (spD K 4 (run defs k 91))
  a_law_less : FnGood P w K mg base k "_law_less" P_law_less (spD K 2 (run defs k 92))
  a_law_stands : FnGood P w K mg base k "_law_stands" P_law_stands (spD K 3 (run defs k 93))
  a_law : FnGood P w K mg base k "law" P_law (spD K 1 (run defs k 94))
theorem all_zero (h : Has K mg) : All P w K mg base 0 := ⟨fn_zero h.h_is_at_least rfl, fn_zero h.h_sum_of rfl, fn_zero h.h_due_of rfl, fn_zero h.h_with_given rfl, fn_zero h.h_changes rfl, fn_zero h.h_behind rfl, fn_zero h.h_serve rfl, fn_zero h.h_contents_of rfl, fn_zero h.h_ways_of rfl, fn_zero h.h_ranks_of rfl, fn_zero h.h_is_safe rfl, fn_zero h.h_least_of rfl, fn_zero h.h_greatest_of rfl, fn_zero h.h_least_floats rfl, fn_zero h.h_greatest_unsafe rfl, fn_zero h.h_holds_one rfl, fn_zero h.h_fails_within rfl, fn_zero h.h_breaker rfl, fn_zero h.h_least_caps rfl, fn_zero h.h_law_mixed rfl, fn_zero h.h_law_row rfl, fn_zero h.h_law_is_int rfl, fn_zero h.h_law_like rfl, fn_zero h.h_law_shop rfl, fn_zero h.h_law_contents rfl, fn_zero h.h_law_above rfl, fn_zero h.h_law_are_rows rfl, fn_zero h.h_law_behind rfl, fn_zero h.h_law_less rfl, fn_zero h.h_law_stands rfl, fn_zero h.h_law rfl⟩
theorem all_step {k : Nat} (h : Has K mg) (T : All P w K mg base k) : All P w K mg base (k + 1) where
  a_is_at_least := fn_step (fn := f_is_at_least) (id := 68) h.h_is_at_least sc_is_at_least rfl rfl rfl rfl (by decide) fun f cdv A outer s H E hr => b_is_at_least (good_of hr sc_is_at_least.nd h.bl)
  a_sum_of := fn_step (fn := f_sum_of) (id := 69) h.h_sum_of sc_sum_of rfl rfl rfl rfl (by decide) fun f cdv A outer s H E hr => b_sum_of (good_of hr sc_sum_of.nd h.bl)
  a_due_of := fn_step (fn := f_due_of) (id := 70) h.h_due_of sc_due_of rfl rfl rfl rfl (by decide) fun f cdv A outer s H E hr => b_due_of (good_of hr sc_due_of.nd h.bl) (cal_of (fn := f_sum_of) T.a_sum_of hr rfl rfl)
  a_with_given := fn_step (fn := f_with_given) (id := 71) h.h_with_given sc_with_given rfl rfl rfl rfl (by decide) fun f cdv A outer s H E hr => b_with_given (good_of hr sc_with_given.nd h.bl)
  a_changes := fn_step (fn := f_changes) (id := 72) h.h_changes sc_changes rfl rfl rfl rfl (by decide) fun f cdv A outer s H E hr => b_changes (good_of hr sc_changes.nd h.bl) (cal_of (fn := f_due_of) T.a_due_of hr rfl rfl) (cal_of (fn := f_with_given) T.a_with_given hr rfl rfl)
  a_behind := fn_step (fn := f_behind) (id := 73) h.h_behind sc_behind rfl rfl rfl rfl (by decide) fun f cdv A outer s H E hr => b_behind (good_of hr sc_behind.nd h.bl) (cal_of (fn := f_with_given) T.a_with_given hr rfl rfl)
  a_serve := fn_step (fn := f_serve) (id := 74) h.h_serve sc_serve rfl rfl rfl rfl (by decide) fun f cdv A outer s H E hr => b_serve (good_of hr sc_serve.nd h.bl) (cal_of (fn := f_sum_of) T.a_sum_of hr rfl rfl) (cal_of (fn := f_due_of) T.a_due_of hr rfl rfl) (cal_of (fn := f_with_given) T.a_with_given hr rfl rfl) (cal_of (fn := f_behind) T.a_behind hr rfl rfl)
  a_contents_of := fn_step (fn := f_contents_of) (id := 75) h.h_contents_of sc_contents_of rfl rfl rfl rfl (by decide) fun f cdv A outer s H E hr => b_contents_of (good_of hr sc_contents_of.nd h.bl)
  a_ways_of := fn_step (fn := f_ways_of) (id := 76) h.h_ways_of sc_ways_of rfl rfl rfl rfl (by decide) fun f cdv A outer s H E hr => b_ways_of (good_of hr sc_ways_of.nd h.bl) (cal_of (fn := f_changes) T.a_changes hr rfl rfl) (cal_of (fn := f_behind) T.a_behind hr rfl rfl) (cal_of (fn := f_contents_of) T.a_contents_of hr rfl rfl)
  a_ranks_of := fn_step (fn := f_ranks_of) (id := 77) h.h_ranks_of sc_ranks_of rfl rfl rfl rfl (by decide) fun f cdv A outer s H E hr => b_ranks_of (good_of hr sc_ranks_of.nd h.bl) (cal_of (fn := f_ways_of) T.a_ways_of hr rfl rfl)
  a_is_safe := fn_step (fn := f_is_safe) (id := 78) h.h_is_safe sc_is_safe rfl rfl rfl rfl (by decide) fun f cdv A outer s H E hr => b_is_safe (good_of hr sc_is_safe.nd h.bl) (cal_of (fn := f_ranks_of) T.a_ranks_of hr rfl rfl)
  a_least_of := fn_step (fn := f_least_of) (id := 79) h.h_least_of sc_least_of rfl rfl rfl rfl (by decide) fun f cdv A outer s H E hr => b_least_of (good_of hr sc_least_of.nd h.bl) (cal_of (fn := f_is_at_least) T.a_is_at_least hr rfl rfl)
  a_greatest_of := fn_step (fn := f_greatest_of) (id := 80) h.h_greatest_of sc_greatest_of rfl rfl rfl rfl (by decide) fun f cdv A outer s H E hr => b_greatest_of (good_of hr sc_greatest_of.nd h.bl) (cal_of (fn := f_is_at_least) T.a_is_at_least hr rfl rfl)
  a_least_floats := fn_step (fn := f_least_floats) (id := 81) h.h_least_floats sc_least_floats rfl rfl rfl rfl (by decide) fun f cdv A outer s H E hr => b_least_floats (good_of hr sc_least_floats.nd h.bl) (cal_of (fn := f_contents_of) T.a_contents_of hr rfl rfl) (cal_of (fn := f_ranks_of) T.a_ranks_of hr rfl rfl) (cal_of (fn := f_least_of) T.a_least_of hr rfl rfl)
  a_greatest_unsafe := fn_step (fn := f_greatest_unsafe) (id := 82) h.h_greatest_unsafe sc_greatest_unsafe rfl rfl rfl rfl (by decide) fun f cdv A outer s H E hr => b_greatest_unsafe (good_of hr sc_greatest_unsafe.nd h.bl) (cal_of (fn := f_contents_of) T.a_contents_of hr rfl rfl) (cal_of (fn := f_ranks_of) T.a_ranks_of hr rfl rfl) (cal_of (fn := f_greatest_of) T.a_greatest_of hr rfl rfl)
  a_holds_one := fn_step (fn := f_holds_one) (id := 83) h.h_holds_one sc_holds_one rfl rfl rfl rfl (by decide) fun f cdv A outer s H E hr => b_holds_one (good_of hr sc_holds_one.nd h.bl) (cal_of (fn := f_is_at_least) T.a_is_at_least hr rfl rfl)
  a_fails_within := fn_step (fn := f_fails_within) (id := 84) h.h_fails_within sc_fails_within rfl rfl rfl rfl (by decide) fun f cdv A outer s H E hr => b_fails_within (good_of hr sc_fails_within.nd h.bl) (cal_of (fn := f_ranks_of) T.a_ranks_of hr rfl rfl)
  a_breaker := fn_step (fn := f_breaker) (id := 85) h.h_breaker sc_breaker rfl rfl rfl rfl (by decide) fun f cdv A outer s H E hr => b_breaker (good_of hr sc_breaker.nd h.bl) (cal_of (fn := f_changes) T.a_changes hr rfl rfl) (cal_of (fn := f_behind) T.a_behind hr rfl rfl) (cal_of (fn := f_ranks_of) T.a_ranks_of hr rfl rfl)
  a_least_caps := fn_step (fn := f_least_caps) (id := 86) h.h_least_caps sc_least_caps rfl rfl rfl rfl (by decide) fun f cdv A outer s H E hr => b_least_caps (good_of hr sc_least_caps.nd h.bl) (cal_of (fn := f_contents_of) T.a_contents_of hr rfl rfl) (cal_of (fn := f_is_safe) T.a_is_safe hr rfl rfl) (cal_of (fn := f_least_of) T.a_least_of hr rfl rfl) (cal_of (fn := f_holds_one) T.a_holds_one hr rfl rfl)
  a_law_mixed := fn_step (fn := f_law_mixed) (id := 7) h.h_law_mixed sc_law_mixed rfl rfl rfl rfl (by decide) fun f cdv A outer s H E hr => b_law_mixed (good_of hr sc_law_mixed.nd h.bl)
  a_law_row := fn_step (fn := f_law_row) (id := 8) h.h_law_row sc_law_row rfl rfl rfl rfl (by decide) fun f cdv A outer s H E hr => b_law_row (good_of hr sc_law_row.nd h.bl) (cal_of (fn := f_law_mixed) T.a_law_mixed hr rfl rfl)
  a_law_is_int := fn_step (fn := f_law_is_int) (id := 9) h.h_law_is_int sc_law_is_int rfl rfl rfl rfl (by decide) fun f cdv A outer s H E hr => b_law_is_int (good_of hr sc_law_is_int.nd h.bl)
  a_law_like := fn_step (fn := f_law_like) (id := 10) h.h_law_like sc_law_like rfl rfl rfl rfl (by decide) fun f cdv A outer s H E hr => b_law_like (good_of hr sc_law_like.nd h.bl) (cal_of (fn := f_law_is_int) T.a_law_is_int hr rfl rfl) (cal_of (fn := f_law_like) T.a_law_like hr rfl rfl)
  a_law_shop := fn_step (fn := f_law_shop) (id := 87) h.h_law_shop sc_law_shop rfl rfl rfl rfl (by decide) fun f cdv A outer s H E hr => b_law_shop (good_of hr sc_law_shop.nd h.bl)
  a_law_contents := fn_step (fn := f_law_contents) (id := 88) h.h_law_contents sc_law_contents rfl rfl rfl rfl (by decide) fun f cdv A outer s H E hr => b_law_contents (good_of hr sc_law_contents.nd h.bl)
  a_law_above := fn_step (fn := f_law_above) (id := 89) h.h_law_above sc_law_above rfl rfl rfl rfl (by decide) fun f cdv A outer s H E hr => b_law_above (good_of hr sc_law_above.nd h.bl)
  a_law_are_rows := fn_step (fn := f_law_are_rows) (id := 90) h.h_law_are_rows sc_law_are_rows rfl rfl rfl rfl (by decide) fun f cdv A outer s H E hr => b_law_are_rows (good_of hr sc_law_are_rows.nd h.bl) (cal_of (fn := f_law_is_int) T.a_law_is_int hr rfl rfl)
  a_law_behind := fn_step (fn := f_law_behind) (id := 91) h.h_law_behind sc_law_behind rfl rfl rfl rfl (by decide) fun f cdv A outer s H E hr => b_law_behind (good_of hr sc_law_behind.nd h.bl) (cal_of (fn := f_changes) T.a_changes hr rfl rfl) (cal_of (fn := f_serve) T.a_serve hr rfl rfl)
  a_law_less := fn_step (fn := f_law_less) (id := 92) h.h_law_less sc_law_less rfl rfl rfl rfl (by decide) fun f cdv A outer s H E hr => b_law_less (good_of hr sc_law_less.nd h.bl)
  a_law_stands := fn_step (fn := f_law_stands) (id := 93) h.h_law_stands sc_law_stands rfl rfl rfl rfl (by decide) fun f cdv A outer s H E hr => b_law_stands (good_of hr sc_law_stands.nd h.bl) (cal_of (fn := f_law_is_int) T.a_law_is_int hr rfl rfl) (cal_of (fn := f_law_like) T.a_law_like hr rfl rfl) (cal_of (fn := f_is_safe) T.a_is_safe hr rfl rfl) (cal_of (fn := f_breaker) T.a_breaker hr rfl rfl) (cal_of (fn := f_law_behind) T.a_law_behind hr rfl rfl) (cal_of (fn := f_law_less) T.a_law_less hr rfl rfl)
  a_law := fn_step (fn := f_law) (id := 94) h.h_law sc_law rfl rfl rfl rfl (by decide) fun f cdv A outer s H E hr => b_law (good_of hr sc_law.nd h.bl) (cal_of (fn := f_law_row) T.a_law_row hr rfl rfl) (cal_of (fn := f_law_is_int) T.a_law_is_int hr rfl rfl) (cal_of (fn := f_least_floats) T.a_least_floats hr rfl rfl) (cal_of (fn := f_greatest_unsafe) T.a_greatest_unsafe hr rfl rfl) (cal_of (fn := f_fails_within) T.a_fails_within hr rfl rfl) (cal_of (fn := f_least_caps) T.a_least_caps hr rfl rfl) (cal_of (fn := f_law_shop) T.a_law_shop hr rfl rfl) (cal_of (fn := f_law_contents) T.a_law_contents hr rfl rfl) (cal_of (fn := f_law_above) T.a_law_above hr rfl rfl) (cal_of (fn := f_law_are_rows) T.a_law_are_rows hr rfl rfl) (cal_of (fn := f_law_stands) T.a_law_stands hr rfl rfl)
theorem all_k (h : Has K mg) : ∀ k, All P w K mg base k
  | 0 => all_zero h
  | k + 1 => all_step h (all_k h k)
theorem ok_law {fa : Addr} {fd : FuncData} (h : Has K mg) (F : FunD K "law" "law" (defArgs st_law) (defBody st_law) (defScope st_law) [] [] fa fd) (k : Nat) : FnOk P w K mg base CX0 (k + 1) fa fd P_law (spD K 1 (run defs (k + 1) 94)) :=
  fn_ok (fn := f_law) (id := 94) F sc_law rfl rfl rfl rfl (by decide) fun f cdv A outer s H E hr => b_law (good_of hr sc_law.nd h.bl) (cal_of (fn := f_law_row) (all_k h k).a_law_row hr rfl rfl) (cal_of (fn := f_law_is_int) (all_k h k).a_law_is_int hr rfl rfl) (cal_of (fn := f_least_floats) (all_k h k).a_least_floats hr rfl rfl) (cal_of (fn := f_greatest_unsafe) (all_k h k).a_greatest_unsafe hr rfl rfl) (cal_of (fn := f_fails_within) (all_k h k).a_fails_within hr rfl rfl) (cal_of (fn := f_least_caps) (all_k h k).a_least_caps hr rfl rfl) (cal_of (fn := f_law_shop) (all_k h k).a_law_shop hr rfl rfl) (cal_of (fn := f_law_contents) (all_k h k).a_law_contents hr rfl rfl) (cal_of (fn := f_law_above) (all_k h k).a_law_above hr rfl rfl) (cal_of (fn := f_law_are_rows) (all_k h k).a_law_are_rows hr rfl rfl) (cal_of (fn := f_law_stands) (all_k h k).a_law_stands hr rfl rfl)
end
end Rx
end

section
set_option Elab.async false
set_option linter.all false
set_option maxRecDepth 100000
set_option autoImplicit false
namespace Rx
/-! ### the head -/
section
open PySem PySem.Spec PyProof.Rows L2
def dd_is_at_least : He.DefD := ⟨("is_at_least", none), "is_at_least", "is_at_least", defArgs st_is_at_least, defBody st_is_at_least, defScope st_is_at_least, [], []⟩
def dd_sum_of : He.DefD := ⟨("sum_of", none), "sum_of", "sum_of", defArgs st_sum_of, defBody st_sum_of, defScope st_sum_of, [], []⟩
def dd_due_of : He.DefD := ⟨("due_of", none), "due_of", "due_of", defArgs st_due_of, defBody st_due_of, defScope st_due_of, [], []⟩
def dd_with_given : He.DefD := ⟨("with_given", none), "with_given", "with_given", defArgs st_with_given, defBody st_with_given, defScope st_with_given, [], []⟩
def dd_changes : He.DefD := ⟨("changes", none), "changes", "changes", defArgs st_changes, defBody st_changes, defScope st_changes, [], []⟩
def dd_behind : He.DefD := ⟨("behind", none), "behind", "behind", defArgs st_behind, defBody st_behind, defScope st_behind, [], []⟩
def dd_serve : He.DefD := ⟨("serve", none), "serve", "serve", defArgs st_serve, defBody st_serve, defScope st_serve, [], []⟩
def dd_contents_of : He.DefD := ⟨("contents_of", none), "contents_of", "contents_of", defArgs st_contents_of, defBody st_contents_of, defScope st_contents_of, [], []⟩
def dd_ways_of : He.DefD := ⟨("ways_of", none), "ways_of", "ways_of", defArgs st_ways_of, defBody st_ways_of, defScope st_ways_of, [], []⟩
def dd_ranks_of : He.DefD := ⟨("ranks_of", none), "ranks_of", "ranks_of", defArgs st_ranks_of, defBody st_ranks_of, defScope st_ranks_of, [], []⟩
def dd_is_safe : He.DefD := ⟨("is_safe", none), "is_safe", "is_safe", defArgs st_is_safe, defBody st_is_safe, defScope st_is_safe, [], []⟩
def dd_least_of : He.DefD := ⟨("least_of", none), "least_of", "least_of", defArgs st_least_of, defBody st_least_of, defScope st_least_of, [], []⟩
def dd_greatest_of : He.DefD := ⟨("greatest_of", none), "greatest_of", "greatest_of", defArgs st_greatest_of, defBody st_greatest_of, defScope st_greatest_of, [], []⟩
def dd_least_floats : He.DefD := ⟨("least_floats", none), "least_floats", "least_floats", defArgs st_least_floats, defBody st_least_floats, defScope st_least_floats, [], []⟩
def dd_greatest_unsafe : He.DefD := ⟨("greatest_unsafe", none), "greatest_unsafe", "greatest_unsafe", defArgs st_greatest_unsafe, defBody st_greatest_unsafe, defScope st_greatest_unsafe, [], []⟩
def dd_holds_one : He.DefD := ⟨("holds_one", none), "holds_one", "holds_one", defArgs st_holds_one, defBody st_holds_one, defScope st_holds_one, [], []⟩
def dd_fails_within : He.DefD := ⟨("fails_within", none), "fails_within", "fails_within", defArgs st_fails_within, defBody st_fails_within, defScope st_fails_within, [], []⟩
def dd_breaker : He.DefD := ⟨("breaker", none), "breaker", "breaker", defArgs st_breaker, defBody st_breaker, defScope st_breaker, [], []⟩
def dd_least_caps : He.DefD := ⟨("least_caps", none), "least_caps", "least_caps", defArgs st_least_caps, defBody st_least_caps, defScope st_least_caps, [], []⟩
def dd_law_mixed : He.DefD := ⟨("_law_mixed", none), "_law_mixed", "_law_mixed", defArgs st_law_mixed, defBody st_law_mixed, defScope st_law_mixed, [], []⟩
def dd_law_row : He.DefD := ⟨("_law_row", none), "_law_row", "_law_row", defArgs st_law_row, defBody st_law_row, defScope st_law_row, [], []⟩
def dd_law_is_int : He.DefD := ⟨("_law_is_int", none), "_law_is_int", "_law_is_int", defArgs st_law_is_int, defBody st_law_is_int, defScope st_law_is_int, [], []⟩
def dd_law_like : He.DefD := ⟨("_law_like", none), "_law_like", "_law_like", defArgs st_law_like, defBody st_law_like, defScope st_law_like, [], []⟩
def dd_law_shop : He.DefD := ⟨("_law_shop", none), "_law_shop", "_law_shop", defArgs st_law_shop, defBody st_law_shop, defScope st_law_shop, [], []⟩
def dd_law_contents : He.DefD := ⟨("_law_contents", none), "_law_contents", "_law_contents", defArgs st_law_contents, defBody st_law_contents, defScope st_law_contents, [], []⟩
def dd_law_above : He.DefD := ⟨("_law_above", none), "_law_above", "_law_above", defArgs st_law_above, defBody st_law_above, defScope st_law_above, [], []⟩
def dd_law_are_rows : He.DefD := ⟨("_law_are_rows", none), "_law_are_rows", "_law_are_rows", defArgs st_law_are_rows, defBody st_law_are_rows, defScope st_law_are_rows, [], []⟩
def dd_law_behind : He.DefD := ⟨("_law_behind", none), "_law_behind", "_law_behind", defArgs st_law_behind, defBody st_law_behind, defScope st_law_behind, [], []⟩
def dd_law_less : He.DefD := ⟨("_law_less", none), "_law_less", "_law_less", defArgs st_law_less, defBody st_law_less, defScope st_law_less, [], []⟩
def dd_law_stands : He.DefD := ⟨("_law_stands", none), "_law_stands", "_law_stands", defArgs st_law_stands, defBody st_law_stands, defScope st_law_stands, [], []⟩
def dd_law : He.DefD := ⟨("law", none), "law", "law", defArgs st_law, defBody st_law, defScope st_law, [], []⟩
def fnD : List He.DefD := [dd_is_at_least, dd_sum_of, dd_due_of, dd_with_given, dd_changes, dd_behind, dd_serve, dd_contents_of, dd_ways_of, dd_ranks_of, dd_is_safe, dd_least_of, dd_greatest_of, dd_least_floats, dd_greatest_unsafe, dd_holds_one, dd_fails_within, dd_breaker, dd_least_caps, dd_law_mixed, dd_law_row, dd_law_is_int, dd_law_like, dd_law_shop, dd_law_contents, dd_law_above, dd_law_are_rows, dd_law_behind, dd_law_less, dd_law_stands] ++ [dd_law]
def faD : List He.Fa := [.glo "is_at_least", .glo "sum_of", .glo "due_of", .glo "with_given", .glo "changes", .glo "behind", .glo "serve", .glo "contents_of", .glo "ways_of", .glo "ranks_of", .glo "is_safe", .glo "least_of", .glo "greatest_of", .glo "least_floats", .glo "greatest_unsafe", .glo "holds_one", .glo "fails_within", .glo "breaker", .glo "least_caps", .glo "_law_mixed", .glo "_law_row", .glo "_law_is_int", .glo "_law_like", .glo "_law_shop", .glo "_law_contents", .glo "_law_above", .glo "_law_are_rows", .glo "_law_behind", .glo "_law_less", .glo "_law_stands"] ++ [.glo "law", .free "len", .free "range", .free "sum", .free "min", .free "max", .free "all", .free "any", .free "tuple", .free "list", .free "sorted", .free "set", .free "int", .free "isinstance", .free "enumerate", .free "zip", .free "reversed", .free "bool", .free "str"]
abbrev RR : PySem.W.OpenRow := PySem.W.OpenLaw.row PySem.Challenge.rw_changeforall_k73_whole_ranks_of_tills
def loose : List PySem.Str := ["is_at_least", "sum_of", "due_of", "with_given", "changes", "behind", "serve", "contents_of", "ways_of", "ranks_of", "is_safe", "least_of", "greatest_of", "least_floats", "greatest_unsafe", "holds_one", "fails_within", "breaker", "least_caps", "_law_mixed", "_law_row", "_law_is_int", "_law_like", "_law_shop", "_law_contents", "_law_above", "_law_are_rows", "_law_behind", "_law_less", "_law_stands"]
abbrev hkD : PySem.W.Hook := He.hookD 4 faD fnD
def obD (s : PySem.W.SharedT) : He.AlD := He.obsDG 4 faD fnD (HandSHeadRun.getT s)
theorem obD_eq (s : PySem.W.SharedT) : obD s = hkD.obs s.abs := He.obsDG_eq (HandSHeadRun.getT_eq s)
set_option maxHeartbeats 0 in
theorem run_top (w : World) : HandSHeadRun.RunEq RR (PySem.W.view RR.prog [35]) hkD obD 2000 loose w := by
  intro os
  kernel_rfl
set_option maxHeartbeats 0 in
theorem facts {K : PySem.W.Frag} {h : Heap} {mg : Str → Option Value} (X : K.In h) (G : h.Ns mainGlobals mg) (c : He.SaysD faD fnD K) : Has K mg where
  h_is_at_least := let ⟨fd, F⟩ := c.def_ 0 (d := dd_is_at_least) rfl; has_mk (d := dd_is_at_least) F (He.glo_ok X G (c.fact 0 (f := .glo "is_at_least") rfl)) fun _ _ _ _ _ _ us hl => match us, hl with | [_, _], _ => rfl
  h_sum_of := let ⟨fd, F⟩ := c.def_ 1 (d := dd_sum_of) rfl; has_mk (d := dd_sum_of) F (He.glo_ok X G (c.fact 1 (f := .glo "sum_of") rfl)) fun _ _ _ _ _ _ us hl => match us, hl with | [_, _], _ => rfl
  h_due_of := let ⟨fd, F⟩ := c.def_ 2 (d := dd_due_of) rfl; has_mk (d := dd_due_of) F (He.glo_ok X G (c.fact 2 (f := .glo "due_of") rfl)) fun _ _ _ _ _ _ us hl => match us, hl with | [_, _], _ => rfl
  h_with_given := let ⟨fd, F⟩ := c.def_ 3 (d := dd_with_given) rfl; has_mk (d := dd_with_given) F (He.glo_ok X G (c.fact 3 (f := .glo "with_given") rfl)) fun _ _ _ _ _ _ us hl => match us, hl with | [_, _, _], _ => rfl
  h_changes := let ⟨fd, F⟩ := c.def_ 4 (d := dd_changes) rfl; has_mk (d := dd_changes) F (He.glo_ok X G (c.fact 4 (f := .glo "changes") rfl)) fun _ _ _ _ _ _ us hl => match us, hl with | [_, _, _], _ => rfl
  h_behind := let ⟨fd, F⟩ := c.def_ 5 (d := dd_behind) rfl; has_mk (d := dd_behind) F (He.glo_ok X G (c.fact 5 (f := .glo "behind") rfl)) fun _ _ _ _ _ _ us hl => match us, hl with | [_, _, _, _], _ => rfl
  h_serve := let ⟨fd, F⟩ := c.def_ 6 (d := dd_serve) rfl; has_mk (d := dd_serve) F (He.glo_ok X G (c.fact 6 (f := .glo "serve") rfl)) fun _ _ _ _ _ _ us hl => match us, hl with | [_, _, _, _], _ => rfl
  h_contents_of := let ⟨fd, F⟩ := c.def_ 7 (d := dd_contents_of) rfl; has_mk (d := dd_contents_of) F (He.glo_ok X G (c.fact 7 (f := .glo "contents_of") rfl)) fun _ _ _ _ _ _ us hl => match us, hl with | [_], _ => rfl
  h_ways_of := let ⟨fd, F⟩ := c.def_ 8 (d := dd_ways_of) rfl; has_mk (d := dd_ways_of) F (He.glo_ok X G (c.fact 8 (f := .glo "ways_of") rfl)) fun _ _ _ _ _ _ us hl => match us, hl with | [_], _ => rfl
  h_ranks_of := let ⟨fd, F⟩ := c.def_ 9 (d := dd_ranks_of) rfl; has_mk (d := dd_ranks_of) F (He.glo_ok X G (c.fact 9 (f := .glo "ranks_of") rfl)) fun _ _ _ _ _ _ us hl => match us, hl with | [_], _ => rfl
  h_is_safe := let ⟨fd, F⟩ := c.def_ 10 (d := dd_is_safe) rfl; has_mk (d := dd_is_safe) F (He.glo_ok X G (c.fact 10 (f := .glo "is_safe") rfl)) fun _ _ _ _ _ _ us hl => match us, hl with | [_, _], _ => rfl
  h_least_of := let ⟨fd, F⟩ := c.def_ 11 (d := dd_least_of) rfl; has_mk (d := dd_least_of) F (He.glo_ok X G (c.fact 11 (f := .glo "least_of") rfl)) fun _ _ _ _ _ _ us hl => match us, hl with | [_], _ => rfl
  h_greatest_of := let ⟨fd, F⟩ := c.def_ 12 (d := dd_greatest_of) rfl; has_mk (d := dd_greatest_of) F (He.glo_ok X G (c.fact 12 (f := .glo "greatest_of") rfl)) fun _ _ _ _ _ _ us hl => match us, hl with | [_], _ => rfl
  h_least_floats := let ⟨fd, F⟩ := c.def_ 13 (d := dd_least_floats) rfl; has_mk (d := dd_least_floats) F (He.glo_ok X G (c.fact 13 (f := .glo "least_floats") rfl)) fun _ _ _ _ _ _ us hl => match us, hl with | [_], _ => rfl
  h_greatest_unsafe := let ⟨fd, F⟩ := c.def_ 14 (d := dd_greatest_unsafe) rfl; has_mk (d := dd_greatest_unsafe) F (He.glo_ok X G (c.fact 14 (f := .glo "greatest_unsafe") rfl)) fun _ _ _ _ _ _ us hl => match us, hl with | [_], _ => rfl
  h_holds_one := let ⟨fd, F⟩ := c.def_ 15 (d := dd_holds_one) rfl; has_mk (d := dd_holds_one) F (He.glo_ok X G (c.fact 15 (f := .glo "holds_one") rfl)) fun _ _ _ _ _ _ us hl => match us, hl with | [_, _], _ => rfl
  h_fails_within := let ⟨fd, F⟩ := c.def_ 16 (d := dd_fails_within) rfl; has_mk (d := dd_fails_within) F (He.glo_ok X G (c.fact 16 (f := .glo "fails_within") rfl)) fun _ _ _ _ _ _ us hl => match us, hl with | [_, _], _ => rfl
  h_breaker := let ⟨fd, F⟩ := c.def_ 17 (d := dd_breaker) rfl; has_mk (d := dd_breaker) F (He.glo_ok X G (c.fact 17 (f := .glo "breaker") rfl)) fun _ _ _ _ _ _ us hl => match us, hl with | [_, _], _ => rfl
  h_least_caps := let ⟨fd, F⟩ := c.def_ 18 (d := dd_least_caps) rfl; has_mk (d := dd_least_caps) F (He.glo_ok X G (c.fact 18 (f := .glo "least_caps") rfl)) fun _ _ _ _ _ _ us hl => match us, hl with | [_, _, _], _ => rfl
  h_law_mixed := let ⟨fd, F⟩ := c.def_ 19 (d := dd_law_mixed) rfl; has_mk (d := dd_law_mixed) F (He.glo_ok X G (c.fact 19 (f := .glo "_law_mixed") rfl)) fun _ _ _ _ _ _ us hl => match us, hl with | [_, _], _ => rfl
  h_law_row := let ⟨fd, F⟩ := c.def_ 20 (d := dd_law_row) rfl; has_mk (d := dd_law_row) F (He.glo_ok X G (c.fact 20 (f := .glo "_law_row") rfl)) fun _ _ _ _ _ _ us hl => match us, hl with | [_, _], _ => rfl
  h_law_is_int := let ⟨fd, F⟩ := c.def_ 21 (d := dd_law_is_int) rfl; has_mk (d := dd_law_is_int) F (He.glo_ok X G (c.fact 21 (f := .glo "_law_is_int") rfl)) fun _ _ _ _ _ _ us hl => match us, hl with | [_], _ => rfl
  h_law_like := let ⟨fd, F⟩ := c.def_ 22 (d := dd_law_like) rfl; has_mk (d := dd_law_like) F (He.glo_ok X G (c.fact 22 (f := .glo "_law_like") rfl)) fun _ _ _ _ _ _ us hl => match us, hl with | [_, _], _ => rfl
  h_law_shop := let ⟨fd, F⟩ := c.def_ 23 (d := dd_law_shop) rfl; has_mk (d := dd_law_shop) F (He.glo_ok X G (c.fact 23 (f := .glo "_law_shop") rfl)) fun _ _ _ _ _ _ us hl => match us, hl with | [_], _ => rfl
  h_law_contents := let ⟨fd, F⟩ := c.def_ 24 (d := dd_law_contents) rfl; has_mk (d := dd_law_contents) F (He.glo_ok X G (c.fact 24 (f := .glo "_law_contents") rfl)) fun _ _ _ _ _ _ us hl => match us, hl with | [_], _ => rfl
  h_law_above := let ⟨fd, F⟩ := c.def_ 25 (d := dd_law_above) rfl; has_mk (d := dd_law_above) F (He.glo_ok X G (c.fact 25 (f := .glo "_law_above") rfl)) fun _ _ _ _ _ _ us hl => match us, hl with | [_, _], _ => rfl
  h_law_are_rows := let ⟨fd, F⟩ := c.def_ 26 (d := dd_law_are_rows) rfl; has_mk (d := dd_law_are_rows) F (He.glo_ok X G (c.fact 26 (f := .glo "_law_are_rows") rfl)) fun _ _ _ _ _ _ us hl => match us, hl with | [_, _], _ => rfl
  h_law_behind := let ⟨fd, F⟩ := c.def_ 27 (d := dd_law_behind) rfl; has_mk (d := dd_law_behind) F (He.glo_ok X G (c.fact 27 (f := .glo "_law_behind") rfl)) fun _ _ _ _ _ _ us hl => match us, hl with | [_, _, _, _], _ => rfl
  h_law_less := let ⟨fd, F⟩ := c.def_ 28 (d := dd_law_less) rfl; has_mk (d := dd_law_less) F (He.glo_ok X G (c.fact 28 (f := .glo "_law_less") rfl)) fun _ _ _ _ _ _ us hl => match us, hl with | [_, _], _ => rfl
  h_law_stands := let ⟨fd, F⟩ := c.def_ 29 (d := dd_law_stands) rfl; has_mk (d := dd_law_stands) F (He.glo_ok X G (c.fact 29 (f := .glo "_law_stands") rfl)) fun _ _ _ _ _ _ us hl => match us, hl with | [_, _, _], _ => rfl
  h_law := let ⟨fd, F⟩ := c.def_ 30 (d := dd_law) rfl; has_mk (d := dd_law) F (He.glo_ok X G (c.fact 30 (f := .glo "law") rfl)) fun _ _ _ _ _ _ us hl => match us, hl with | [_], _ => rfl
  bl := by
    intro b hb
    simp only [blts, List.mem_cons, List.not_mem_nil, or_false] at hb
    rcases hb with rfl | rfl | rfl | rfl | rfl | rfl | rfl | rfl | rfl | rfl | rfl | rfl | rfl | rfl | rfl | rfl | rfl | rfl
    · exact He.free_ok X G (c.fact 31 (f := .free "len") rfl)
    · exact He.free_ok X G (c.fact 32 (f := .free "range") rfl)
    · exact He.free_ok X G (c.fact 33 (f := .free "sum") rfl)
    · exact He.free_ok X G (c.fact 34 (f := .free "min") rfl)
    · exact He.free_ok X G (c.fact 35 (f := .free "max") rfl)
    · exact He.free_ok X G (c.fact 36 (f := .free "all") rfl)
    · exact He.free_ok X G (c.fact 37 (f := .free "any") rfl)
    · exact He.free_ok X G (c.fact 38 (f := .free "tuple") rfl)
    · exact He.free_ok X G (c.fact 39 (f := .free "list") rfl)
    · exact He.free_ok X G (c.fact 40 (f := .free "sorted") rfl)
    · exact He.free_ok X G (c.fact 41 (f := .free "set") rfl)
    · exact He.free_ok X G (c.fact 42 (f := .free "int") rfl)
    · exact He.free_ok X G (c.fact 43 (f := .free "isinstance") rfl)
    · exact He.free_ok X G (c.fact 44 (f := .free "enumerate") rfl)
    · exact He.free_ok X G (c.fact 45 (f := .free "zip") rfl)
    · exact He.free_ok X G (c.fact 46 (f := .free "reversed") rfl)
    · exact He.free_ok X G (c.fact 47 (f := .free "bool") rfl)
    · exact He.free_ok X G (c.fact 48 (f := .free "str") rfl)
theorem has_at {K : PySem.W.Frag} {mg : Str → Option Value} {x : Str} {st : Stmt} {ps : List Str} {fa : Addr} (h : HasFn K mg x st ps) (e : mg x = some (.ref fa)) : ∃ fd, FunD K x x (defArgs st) (defBody st) (defScope st) [] [] fa fd := by
  obtain ⟨fa1, fd1, F1, m1, b1⟩ := h.ex
  rw [e] at m1
  injection m1 with m1
  injection m1 with m1
  subst m1
  exact ⟨fd1, F1⟩
end
end Rx
open PySem PySem.W PySem.Calls PyProof.Rows
set_option maxHeartbeats 0 in
theorem PySem.Challenge.cw_changeforall_k73_whole_ranks_of_tills_holds : PySem.Challenge.rw_changeforall_k73_whole_ranks_of_tills.Holds := by
  w_on; o_law
  refine HandSHeadRun.head_any (r := Rx.RR) (q := view Rx.RR.prog [35]) (H := Rx.hkD) (ob := Rx.obD) (M := 2000) (loose := Rx.loose) (d := HandSHeadRun.topDef Rx.RR.prog 35) (kwd := []) Rx.obD_eq
    (by kernel_rfl) (fun s => by kernel_rfl) Rx.run_top (by kernel_rfl) (by kernel_rfl) (by kernel_rfl) (by rfl) (by first | assumption | decide +kernel) (by decide +kernel) ⟨rfl, rfl, rfl, rfl, rfl, by decide +kernel⟩ ?hw ?hc
  case hw => w_witness2
  case hc =>
    refine L2.walk_ofE (l := PySem.Challenge.rw_changeforall_k73_whole_ranks_of_tills) (n := 63) (k := 40) (x := "script") (CX := L2.CX0) rfl (by decide) (by kernel_rfl) ⟨rfl, by decide, by decide⟩ ?F (fun _ _ _ _ z => z)
    intro w mg fa h Y G hmg0
    obtain ⟨K, KX, c⟩ := Y
    have hmg : mg ("law" : PySem.Str) = some (.ref fa) := by
      have e : (HandSHeadRun.topDef Rx.RR.prog 35).name = ("law" : PySem.Str) := by kernel_rfl
      rw [← e]
      exact hmg0
    have hh := Rx.facts KX G c
    obtain ⟨fd1, F1⟩ := Rx.has_at hh.h_law hmg
    refine ⟨K, fd1, Rx.spD K 1 (Rx.run Rx.defs 40 94), KX, fun s v => ?_, fun H a ns hl _ hS => Rx.sp_law (Rx.law_true ns hl) hl hS, fun base _ _ => ?_⟩
    · exact L2.FunD.bindsA (ps := ["script"]) F1 (fun _ _ _ _ _ _ us hl => match us, hl with | [_], _ => rfl) s [v] rfl
    · exact Rx.ok_law hh F1 39
end
