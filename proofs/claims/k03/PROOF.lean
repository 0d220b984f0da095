import PyProof.Rows.All
import Wide.All
import OpenK.AllK
import Wide.FinOn
import HandS.ForMost
import HandS.Exc
import HandS.Star
import HandS.CallSlots
import HandS.Flow
import HandS.Wide
import HandS.TryOnly
import HandS.Iter
import HandS.WordsExc
import HandS.Codes
import HandS.Deep
import HandS.IsInst
import HandS.Text
import HandS.TupAny
import HandS.RaiseMore
import HandS.Steps
import HandS.Dict
import HandS.Strs
import HandS.FStr
import HandS.Small
import HandS.ExcOwn
import HandS.ExcIs
import HandS.ClsMeth
import KE.KDictDisplayH
import PyProof.Rows.SortShellAny
import HandS.TupSets
import HandS.SetFor
import HandS.TryMany
import PyProof.FitsInt
import PyProof.ExcBaseAll.ValueError
import PySem.Challenge.RW_asklater_k03_amounts_refused
set_option autoImplicit false
set_option Elab.async false
set_option linter.all false
set_option maxRecDepth 100000
set_option maxHeartbeats 4000000
/-! Mini, part A: a small language of values for the package and its laws. Data are values; what may change is held by one slot alone. -/
namespace Mini

/-- a text by its signs -/
abbrev Cs := List Nat

/-- data that no longer change -/
inductive D where
  | non | bl (b : Bool) | int (i : Int) | str (s : Cs)
  | tup (ds : List D) | lst (ds : List D)
  | dic (kvs : List (D × D))
  | obj (c : String) (fs : List (String × D))
  | fn (x : String)
  | nimp
  deriving Repr, Inhabited

mutual
def D.beq : D → D → Bool
  | .non, y => match y with | .non => true | _ => false
  | .bl a, y => match y with | .bl b => a == b | _ => false
  | .int a, y => match y with | .int b => a == b | _ => false
  | .str a, y => match y with | .str b => a == b | _ => false
  | .tup a, y => match y with | .tup b => D.beqs a b | _ => false
  | .lst a, y => match y with | .lst b => D.beqs a b | _ => false
  | .dic a, y => match y with | .dic b => D.beqk a b | _ => false
  | .obj c a, y => match y with | .obj d b => c == d && D.beqf a b | _ => false
  | .fn a, y => match y with | .fn b => a == b | _ => false
  | .nimp, y => match y with | .nimp => true | _ => false
termination_by structural x => x
def D.beqs : List D → List D → Bool
  | [], y => y.isEmpty
  | a :: r, y => match y with | b :: q => D.beq a b && D.beqs r q | [] => false
termination_by structural x => x
def D.beqk : List (D × D) → List (D × D) → Bool
  | [], y => y.isEmpty
  | p :: r, y => match y with | q :: s => D.beqp p q && D.beqk r s | [] => false
termination_by structural x => x
def D.beqp : D × D → D × D → Bool
  | (a, x), q => D.beq a q.1 && D.beq x q.2
termination_by structural x => x
def D.beqf : List (String × D) → List (String × D) → Bool
  | [], y => y.isEmpty
  | p :: r, y => match y with | q :: s => D.beqg p q && D.beqf r s | [] => false
termination_by structural x => x
def D.beqg : String × D → String × D → Bool
  | (a, x), q => a == q.1 && D.beq x q.2
termination_by structural x => x
end

/-- what a slot holds: data, an own list or dict (of data), an own object -/
inductive R where
  | d (x : D)
  | own (x : D)
  | obj (c : String) (fs : List (String × R))
  deriving Repr, Inhabited

mutual
def R.frz : R → D
  | .d x => x
  | .own x => x
  | .obj c fs => .obj c (R.frzs fs)
termination_by structural x => x
def R.frzs : List (String × R) → List (String × D)
  | [] => []
  | p :: r => R.frzp p :: R.frzs r
termination_by structural x => x
def R.frzp : String × R → String × D
  | (f, r) => (f, R.frz r)
termination_by structural x => x
end

/-- an exception: its class, its attributes -/
structure Xn where
  c : String
  fs : List (String × D)
  deriving Repr, Inhabited

inductive Rs (α : Type) where
  | ok (a : α)
  | ex (x : Xn)
  deriving Repr, Inhabited

abbrev Env := List (Option R)
/-- a piece of a run: none, where this language says nothing -/
abbrev M (α : Type) := Env → Option (Rs α × Env)
def M.pure {α : Type} (a : α) : M α := fun e => some (.ok a, e)
def M.fail {α : Type} : M α := fun _ => none
def M.bind {α β : Type} (m : M α) (k : α → M β) : M β := fun e =>
  match m e with
  | none => none
  | some (.ok a, e') => k a e'
  | some (.ex x, e') => some (.ex x, e')
def M.lift {α : Type} (o : Option (Rs α)) : M α := fun e =>
  match o with
  | none => none
  | some r => some (r, e)
def M.opt {α : Type} (o : Option α) : M α := fun e =>
  match o with
  | none => none
  | some a => some (.ok a, e)

/-- nothing may be raised -/
def M.quiet {α : Type} (m : M α) : M α := fun e =>
  match m e with
  | some (.ok a, e') => some (.ok a, e')
  | _ => none

def quietIf {α : Type} (b : Bool) (m : M α) : M α := if b then M.quiet m else m

/-! ### pure functions -/
inductive Pr where
  | add | sub | mul | fdiv | mod | pow | neg | bor | band | bxor | shr
  | eq | ne | lt | le | gt | ge | isN | notN | in_ | notin
  | not_
  | len | int | str | tuple | list | sorted | sortdown | sortset | sum | any | all | max | min | abs | bool | repr
  | ix | sl | rev
  | join | split | replace | startswith | isdigit | index | count | get
  | dict
  | isi (cs : List String)
  | fmt
  deriving Repr, Inhabited, DecidableEq

/-- the digits of a whole number -/
def natCs (n : Nat) : Cs := (Nat.toDigits 10 n).map Char.toNat
def intCs (i : Int) : Cs := if i < 0 then 45 :: natCs i.natAbs else natCs i.natAbs

def isDig (c : Nat) : Bool := decide (48 ≤ c) && decide (c ≤ 57)
def csNat (s : Cs) : Nat := s.foldl (fun n c => n * 10 + (c - 48)) 0

def sizeMax : Nat := 1000000

/-- bounds of a slice -/
def clampIx (n : Nat) (i : Int) : Nat :=
  if i < 0 then (i + n).toNat else min i.toNat n
def sliceL {α : Type} (xs : List α) (lo hi : Option Int) : List α :=
  let n := xs.length
  let a := match lo with | none => 0 | some i => clampIx n i
  let b := match hi with | none => n | some i => clampIx n i
  (xs.take b).drop a
def ixNat (n : Nat) (i : Int) : Option Nat :=
  if 0 ≤ i ∧ i < n then some i.toNat else if i < 0 ∧ 0 ≤ i + n then some (i + n).toNat else none
def optInt : D → Option (Option Int)
  | .non => some none
  | .int i => some (some i)
  | _ => none

def joinCs (sep : Cs) : List Cs → Cs
  | [] => []
  | [x] => x
  | x :: r => x ++ sep ++ joinCs sep r
/-- split at each place of a one-sign separator -/
def splitCs (c : Nat) : Cs → List Cs
  | [] => [[]]
  | x :: r => if x = c then [] :: splitCs c r else match splitCs c r with
    | [] => [[x]]
    | w :: ws => (x :: w) :: ws
def hasPrefix : Cs → Cs → Bool
  | [], _ => true
  | _ :: _, [] => false
  | a :: r, b :: q => a == b && hasPrefix r q
def hasPart (x : Cs) : Cs → Bool
  | [] => x.isEmpty
  | b :: q => hasPrefix x (b :: q) || hasPart x q
/-- replace each one-sign text -/
def replaceCs (c : Nat) (by_ : Cs) : Cs → Cs
  | [] => []
  | x :: r => if x = c then by_ ++ replaceCs c by_ r else x :: replaceCs c by_ r
def countCs (x : Cs) : Nat → Cs → Nat
  | 0, _ => 0
  | _ + 1, [] => 0
  | n + 1, b :: q => if hasPrefix x (b :: q) then 1 + countCs x n ((b :: q).drop x.length) else countCs x n q

def ltCs : Cs → Cs → Bool
  | [], [] => false
  | [], _ :: _ => true
  | _ :: _, [] => false
  | a :: r, b :: q => if a = b then ltCs r q else decide (a < b)
def insCs (x : Cs) : List Cs → List Cs
  | [] => [x]
  | y :: r => if ltCs x y then x :: y :: r else y :: insCs x r
/-- sorted, of texts -/
def sortCs (l : List Cs) : List Cs := l.foldr insCs []
def dedup : List Cs → List Cs
  | [] => []
  | x :: r => if r.contains x then dedup r else x :: dedup r
def insI (x : Int) : List Int → List Int
  | [] => [x]
  | y :: r => if x < y then x :: y :: r else y :: insI x r
def sortI (l : List Int) : List Int := l.foldr insI []

def strsOf : List D → Option (List Cs)
  | [] => some []
  | .str s :: r => match strsOf r with | some l => some (s :: l) | none => none
  | _ => none
def intsOf : List D → Option (List Int)
  | [] => some []
  | .int i :: r => match intsOf r with | some l => some (i :: l) | none => none
  | _ => none
def blsOf : List D → Option (List Bool)
  | [] => some []
  | .bl b :: r => match blsOf r with | some l => some (b :: l) | none => none
  | _ => none

/-- the value of a key -/
def dGet (k : D) : List (D × D) → Option D
  | [] => none
  | p :: r => if D.beq p.1 k then some p.2 else dGet k r
def dPut (k v : D) (kvs : List (D × D)) : List (D × D) :=
  if kvs.any (fun p => D.beq p.1 k) then kvs.map (fun p => if D.beq p.1 k then (p.1, v) else p) else kvs ++ [(k, v)]
def dDel (k : D) : List (D × D) → List (D × D)
  | [] => []
  | p :: r => if D.beq p.1 k then r else p :: dDel k r
def flatKey : D → Bool
  | .int _ => true
  | .str _ => true
  | _ => false
def isKey : D → Bool
  | .int _ => true
  | .str _ => true
  | .tup ds => ds.all flatKey
  | _ => false

def isTupD : D → Bool
  | .tup _ => true
  | _ => false
/-- the keys of a dict are all tuples, or none is -/
def sameKind (k : D) (kvs : List (D × D)) : Bool := kvs.all fun p => isTupD p.1 == isTupD k

def getF (f : String) : List (String × D) → Option D
  | [] => none
  | p :: r => if p.1 = f then some p.2 else getF f r
def getFR (f : String) : List (String × R) → Option R
  | [] => none
  | p :: r => if p.1 = f then some p.2 else getFR f r
def putFR (f : String) (v : R) : List (String × R) → List (String × R)
  | [] => [(f, v)]
  | p :: r => if p.1 = f then (f, v) :: r else p :: putFR f v r

/-- what a run leans on -/
structure Ctx where
  /-- the defs, by name; one level less for what a builtin calls and for __init__ -/
  call : String → List R → Option (Rs R × List (Option R))
  call1 : String → List R → Option (Rs R × List (Option R))
  /-- is there such a def -/
  has : String → Bool
  /-- is there such a class -/
  cls : String → Bool
  /-- may the attribute be one of the class's instances alone -/
  att : String → String → Bool
  /-- the classes that a class is one of -/
  sub : String → List String
  const : String → Option D
  /-- parameters that hold what the caller lent -/
  fx : List Nat
  /-- the classes of exceptions -/
  exc : String → Bool
  /-- the exception in hand, and its slot -/
  xn : Option (Nat × Xn)
  fuel : Nat

/-- a call of a def by data alone -/
def ask1 (c : Ctx) (f : String) (ds : List D) : Option (Rs D) :=
  match c.call1 f (ds.map R.d) with
  | some (.ok r, _) => some (.ok r.frz)
  | some (.ex x, _) => some (.ex x)
  | none => none
def askB (c : Ctx) (f : String) (ds : List D) : Option Bool :=
  match ask1 c f ds with
  | some (.ok (.bl b)) => some b
  | _ => none

mutual
/-- == -/
def eqD (c : Ctx) : D → D → Option Bool
  | .non, y => match y with | .obj k fs => askB c (k ++ ".__eq__") [.obj k fs, .non] | .non => some true | .nimp => none | .fn _ => none | _ => some false
  | .bl a, y => match y with | .obj k fs => askB c (k ++ ".__eq__") [.obj k fs, .bl a] | .bl b => some (a == b) | .int _ => none | .nimp => none | .fn _ => none | _ => some false
  | .int a, y => match y with | .obj k fs => askB c (k ++ ".__eq__") [.obj k fs, .int a] | .int b => some (a == b) | .bl _ => none | .nimp => none | .fn _ => none | _ => some false
  | .str a, y => match y with | .obj k fs => askB c (k ++ ".__eq__") [.obj k fs, .str a] | .str b => some (a == b) | .nimp => none | .fn _ => none | _ => some false
  | .tup a, y => match y with | .obj k fs => askB c (k ++ ".__eq__") [.obj k fs, .tup a] | .tup b => eqDs c a b | .nimp => none | .fn _ => none | _ => some false
  | .lst a, y => match y with | .obj k fs => askB c (k ++ ".__eq__") [.obj k fs, .lst a] | .lst b => if a.length = b.length then eqDs c a b else some false | .nimp => none | .fn _ => none | _ => some false
  | .dic a, y => match y with | .dic b => if a.length = b.length then eqDk c a b else some false | .obj _ _ => none | .nimp => none | .fn _ => none | _ => some false
  | .obj k fs, y => askB c (k ++ ".__eq__") [.obj k fs, y]
  | .fn _, _ => none
  | .nimp, _ => none
termination_by structural x => x
def eqDs (c : Ctx) : List D → List D → Option Bool
  | [], y => match y with | [] => some true | _ :: _ => some false
  | a :: r, y => match y with
    | [] => some false
    | b :: q => match eqD c a b with
      | some true => eqDs c r q
      | some false => some false
      | none => none
termination_by structural x => x
def eqDk (c : Ctx) : List (D × D) → List (D × D) → Option Bool
  | [], _ => some true
  | p :: r, y => match eqDp c p y with
    | some true => eqDk c r y
    | some false => some false
    | none => none
termination_by structural x => x
def eqDp (c : Ctx) : D × D → List (D × D) → Option Bool
  | (k, v), y => match dGet k y with
    | none => some false
    | some u => eqD c v u
termination_by structural x => x
end

mutual
/-- < -/
def ltD (c : Ctx) : D → D → Option Bool
  | .int a, y => match y with | .int b => some (decide (a < b)) | _ => none
  | .str a, y => match y with | .str b => some (ltCs a b) | _ => none
  | .tup a, y => match y with | .tup b => ltDs c a b | _ => none
  | .obj k fs, y => askB c (k ++ ".__lt__") [.obj k fs, y]
  | _, _ => none
termination_by structural x => x
def ltDs (c : Ctx) : List D → List D → Option Bool
  | [], y => match y with | [] => some false | _ :: _ => some true
  | a :: r, y => match y with
    | [] => some false
    | b :: q => match eqD c a b with
      | some true => ltDs c r q
      | some false => ltD c a b
      | none => none
termination_by structural x => x
end

mutual
/-- pure data, at most n deep, texts of plain signs -/
def okP : D → Nat → Bool
  | .non, _ => true
  | .bl _, _ => true
  | .int _, _ => true
  | .str s, _ => s.all (fun c => decide (c < 1114112)) && decide (s.length ≤ sizeMax)
  | .tup ds, n => match n with | 0 => false | m + 1 => okPs ds m
  | .lst ds, n => match n with | 0 => false | m + 1 => okPs ds m
  | _, _ => false
termination_by structural x => x
def okPs : List D → Nat → Bool
  | [], _ => true
  | d :: r, n => okP d n && okPs r n
termination_by structural x => x
end

/-- the truth of a value -/
def truthD (c : Ctx) : D → Option Bool
  | .non => some false
  | .bl b => some b
  | .int i => some (i != 0)
  | .str s => if s.length ≤ sizeMax then some (!s.isEmpty) else none
  | .tup ds => some (!ds.isEmpty)
  | .lst ds => some (!ds.isEmpty)
  | _ => none

def strD (c : Ctx) : D → Option (Rs D)
  | .int i => if decide (i.natAbs.log2 < 1920) then some (.ok (.str (intCs i))) else none
  | .str s => if s.length ≤ sizeMax then some (.ok (.str s)) else none
  | .obj k fs => match ask1 c (k ++ ".__str__") [.obj k fs] with
    | some (.ok (.str s)) => some (.ok (.str s))
    | _ => none
  | _ => none

/-- what a walk goes through -/
def itemsD : D → Option (List D)
  | .tup ds => some ds
  | .lst ds => some ds
  | .dic kvs => some (kvs.map (·.1))
  | .str s => some (s.map fun c => .str [c])
  | _ => none

def isOne (c : Ctx) (d : D) (k : String) : Bool :=
  match d with
  | .bl _ => k == "bool" || k == "int"
  | .int _ => k == "int"
  | .str _ => k == "str"
  | .tup _ => k == "tuple"
  | .lst _ => k == "list"
  | .dic _ => k == "dict"
  | .obj x _ => x == k || (c.sub x).contains k
  | _ => false

def hexDig (n : Nat) : Nat := if n < 10 then 48 + n else 87 + n
/-- repr of a text of plain signs -/
def reprSign (q c : Nat) : Cs :=
  if c = q ∨ c = 92 then [92, c]
  else if c = 10 then [92, 110] else if c = 13 then [92, 114] else if c = 9 then [92, 116]
  else if c < 32 ∨ c = 127 then [92, 120, hexDig (c / 16), hexDig (c % 16)] else [c]
def reprCs (s : Cs) : Cs :=
  let q := if s.contains 39 && !s.contains 34 then 34 else 39
  q :: ((s.map (reprSign q)).flatten ++ [q])
mutual
def reprD : D → Option Cs
  | .non => some [78, 111, 110, 101]
  | .bl b => some (if b then [84, 114, 117, 101] else [70, 97, 108, 115, 101])
  | .int i => some (intCs i)
  | .str s => if s.all (· < 127) then some (reprCs s) else none
  | .tup ds => match reprDs ds with
    | some [x] => some (40 :: (x ++ [44, 41]))
    | some l => some (40 :: (joinCs [44, 32] l ++ [41]))
    | none => none
  | .lst ds => match reprDs ds with
    | some l => some (91 :: (joinCs [44, 32] l ++ [93]))
    | none => none
  | _ => none
termination_by structural x => x
def reprDs : List D → Option (List Cs)
  | [] => some []
  | d :: r => match reprD d, reprDs r with
    | some x, some l => some (x :: l)
    | _, _ => none
termination_by structural x => x
end

/-- products and quotients that stay small enough -/
def mulOk (i j : Int) : Bool := decide (i.natAbs < 2 ^ 64) || decide (j.natAbs < 2 ^ 64) || decide (i.natAbs.log2 + j.natAbs.log2 < 1000000)
def divOk (j : Int) : Bool := decide (0 < j) && decide (j.natAbs.log2 < 9000)
def powOk (i j : Int) : Bool := decide (0 ≤ j) && decide (j ≤ 100000) && decide (i.natAbs < 2 ^ 64)

def okd (d : D) : Option (Rs R) := some (.ok (.d d))
def okw (d : D) : Option (Rs R) := some (.ok (.own d))
def okB (o : Option Bool) : Option (Rs R) := match o with | some b => okd (.bl b) | none => none
def okS (o : Option (Rs D)) : Option (Rs R) := match o with | some (.ok d) => okd d | some (.ex x) => some (.ex x) | none => none
def guardR (b : Bool) (r : Option (Rs R)) : Option (Rs R) := if b then r else none

def dunder : Pr → String
  | .add => "add" | .sub => "sub" | .mul => "mul" | .fdiv => "floordiv" | .mod => "mod" | .pow => "pow" | .bor => "or" | .band => "and" | .bxor => "xor" | .shr => "rshift"
  | _ => ""
def arithI : Pr → Int → Int → Option (Rs R)
  | .add, i, j => okd (.int (i + j))
  | .sub, i, j => okd (.int (i - j))
  | .mul, i, j => guardR (mulOk i j) (okd (.int (i * j)))
  | .fdiv, i, j => guardR (divOk j) (okd (.int (i / j)))
  | .mod, i, j => guardR (decide (0 < j)) (okd (.int (i % j)))
  | .pow, i, j => guardR (powOk i j) (okd (.int (i ^ j.toNat)))
  | _, _, _ => none
def arith (c : Ctx) (p : Pr) (a b : D) : Option (Rs R) :=
  match a, b with
  | .int i, .int j => arithI p i j
  | .str s, .str t => match p with | .add => guardR (decide (s.length + t.length ≤ sizeMax)) (okd (.str (s ++ t))) | _ => none
  | .lst s, .lst t => match p with | .add => guardR (decide (s.length + t.length ≤ sizeMax)) (okw (.lst (s ++ t))) | _ => none
  | .tup s, .tup t => match p with | .add => guardR (decide (s.length + t.length ≤ sizeMax)) (okd (.tup (s ++ t))) | _ => none
  | _, _ => none

def cmpD (c : Ctx) (p : Pr) (a b : D) : Option (Rs R) :=
  match p with
  | .eq => guardR (okP a 60 && okP b 60) (okB (eqD c a b))
  | .ne => guardR (okP a 60 && okP b 60) (okB ((eqD c a b).map (!·)))
  | .lt => match a, b with
    | .int i, .int j => okB (some (decide (i < j)))
    | .str s, .str t => okB (some (ltCs s t))
    | _, _ => none
  | .gt => match a, b with
    | .int i, .int j => okB (some (decide (j < i)))
    | _, _ => none
  | .le => match a, b with
    | .int i, .int j => okB (some (decide (i ≤ j)))
    | _, _ => none
  | .ge => match a, b with
    | .int i, .int j => okB (some (decide (j ≤ i)))
    | _, _ => none
  | _ => none

def anyEq (c : Ctx) (x : D) : List D → Option Bool
  | [] => some false
  | y :: r => match eqD c y x with
    | some true => some true
    | some false => anyEq c x r
    | none => none
def indexEq (c : Ctx) (x : D) : Nat → List D → Option Nat
  | _, [] => none
  | n, y :: r => match eqD c y x with
    | some true => some n
    | some false => indexEq c x (n + 1) r
    | none => none
def countEq (c : Ctx) (x : D) : List D → Option Nat
  | [] => some 0
  | y :: r => match eqD c y x, countEq c x r with
    | some true, some n => some (n + 1)
    | some false, some n => some n
    | _, _ => none
def inD (c : Ctx) (x y : D) : Option Bool :=
  match y with
  | .tup ds => if okP x 0 && okPs ds 0 then anyEq c x ds else none
  | .lst ds => if okP x 60 && okPs ds 59 then anyEq c x ds else none
  | .str t => match x with | .str [s] => some (t.contains s) | _ => none
  | _ => none
def pairsOf : List D → Option (List (D × D))
  | [] => some []
  | .tup [k, v] :: r => match pairsOf r with | some l => if isKey k then some ((k, v) :: l) else none | none => none
  | _ => none
def ixD (c : Ctx) (x i : D) : Option (Rs R) :=
  match x, i with
  | .tup ds, .int k => match (ixNat ds.length k).bind (ds[·]?) with | some d => okd d | none => none
  | .lst ds, .int k => match (ixNat ds.length k).bind (ds[·]?) with | some d => okd d | none => none
  | .str s, .int k => match (ixNat s.length k).bind (s[·]?) with | some d => guardR (decide (s.length ≤ sizeMax)) (okd (.str [d])) | none => none
  | .dic kvs, k => if isKey k then (match dGet k kvs with | some d => okd d | none => none) else none
  | _, _ => none

/-- the pure functions by values -/
def prim (c : Ctx) (p : Pr) (ds : List D) : Option (Rs R) :=
  match p, ds with
  | .add, [a, b] => arith c .add a b
  | .sub, [a, b] => arith c .sub a b
  | .mul, [a, b] => arith c .mul a b
  | .fdiv, [a, b] => arith c .fdiv a b
  | .mod, [a, b] => arith c .mod a b
  | .pow, [a, b] => arith c .pow a b
  | .bor, [a, b] => arith c .bor a b
  | .band, [a, b] => arith c .band a b
  | .bxor, [a, b] => arith c .bxor a b
  | .shr, [a, b] => arith c .shr a b
  | .neg, [.int i] => okd (.int (-i))
  | .eq, [a, b] => cmpD c .eq a b
  | .ne, [a, b] => cmpD c .ne a b
  | .lt, [a, b] => cmpD c .lt a b
  | .le, [a, b] => cmpD c .le a b
  | .gt, [a, b] => cmpD c .gt a b
  | .ge, [a, b] => cmpD c .ge a b
  | .isN, [a] => match a with | .non => okd (.bl true) | .nimp => none | _ => okd (.bl false)
  | .notN, [a] => match a with | .non => okd (.bl false) | .nimp => none | _ => okd (.bl true)
  | .in_, [a, b] => okB (inD c a b)
  | .notin, [a, b] => okB ((inD c a b).map (!·))
  | .not_, [a] => okB ((truthD c a).map (!·))
  | .len, [a] => match a with
    | .tup x => okd (.int x.length)
    | .lst x => okd (.int x.length)
    | .str x => guardR (decide (x.length ≤ sizeMax)) (okd (.int x.length))
    | _ => none
  | .int, [a] => match a with
    | .int i => okd (.int i)
    | .bl b => okd (.int (if b then 1 else 0))
    | _ => none
  | .bool, [a] => okB (truthD c a)
  | .str, [a] => okS (strD c a)
  | .fmt, [a] => match a with | .int i => okS (strD c (.int i)) | .str s => okS (strD c (.str s)) | _ => none
  | .repr, [a] => match reprD a with | some s => okd (.str s) | none => none
  | .tuple, [a] => match a with | .lst l => okd (.tup l) | .tup l => okd (.tup l) | _ => none
  | .list, [a] => match a with | .lst l => okw (.lst l) | .tup l => okw (.lst l) | _ => none
  | .sorted, [a] => match a with
    | .lst l => match strsOf l with
      | some x => guardR (decide (x.length < 64)) (okw (.lst ((sortCs x).map .str)))
      | none => none
    | _ => none
  | .sortdown, [a] => match itemsD a with
    | some l => match strsOf l, intsOf l with
      | some x, _ => okw (.lst ((sortCs x).reverse.map .str))
      | _, some x => okw (.lst ((sortI x).reverse.map .int))
      | _, _ => none
    | none => none
  | .sortset, [a] => match a with
    | .lst l => match strsOf l with
      | some x => guardR (decide (x.length < 4096)) (okw (.lst ((sortCs (dedup x)).map .str)))
      | none => none
    | _ => none
  | .sum, [a] => match a with
    | .lst l => match intsOf l with | some x => okd (.int x.sum) | none => none
    | _ => none
  | .any, [a] => match a with
    | .lst l => match blsOf l with | some x => okd (.bl (x.any id)) | none => none
    | _ => none
  | .all, [a] => match a with
    | .lst l => match blsOf l with | some x => okd (.bl (x.all id)) | none => none
    | _ => none
  | .max, [.int i, .int j] => okd (.int (if j > i then j else i))
  | .min, [.int i, .int j] => okd (.int (if j < i then j else i))
  | .abs, [.int i] => okd (.int (if i < 0 then -i else i))
  | .ix, [a, i] => ixD c a i
  | .sl, [a, lo, hi] => match optInt lo, optInt hi with
    | some x, some y => match a with
      | .tup l => okd (.tup (sliceL l x y))
      | .lst l => okw (.lst (sliceL l x y))
      | .str l => okd (.str (sliceL l x y))
      | _ => none
    | _, _ => none
  | .rev, [a] => match a with
      | .tup l => okd (.tup l.reverse)
      | .lst l => okw (.lst l.reverse)
      | .str l => okd (.str l.reverse)
      | _ => none
  | .join, [.str s, a] => match (match a with | .lst l => some l | .tup l => some l | _ => none) with
    | some l => match strsOf l with
      | some x => guardR (decide ((x.map (·.length)).sum + x.length * s.length ≤ sizeMax)) (okd (.str (joinCs s x)))
      | none => none
    | none => none
  | .split, [.str s, .str [k]] => okw (.lst ((splitCs k s).map .str))
  | .replace, [.str s, .str [k], .str t] => guardR (decide (s.length * (t.length + 1) ≤ sizeMax)) (okd (.str (replaceCs k t s)))
  | .startswith, [.str s, .str t] => okd (.bl (hasPrefix t s))
  | .isdigit, [.str s] => guardR (s.all (· < 128)) (okd (.bl (!s.isEmpty && s.all isDig)))
  | .index, [a, x] => match itemsD a with
    | some l => match indexEq c x 0 l with | some n => okd (.int n) | none => none
    | none => none
  | .count, [a, x] => match a, x with
    | .str s, .str t => guardR (!t.isEmpty) (okd (.int (countCs t (s.length + 1) s)))
    | _, _ => match itemsD a with
      | some l => match countEq c x l with | some n => okd (.int n) | none => none
      | none => none
  | .get, [.dic kvs, k, v] => if isKey k then okd ((dGet k kvs).getD v) else none
  | .dict, [a] => match a with
    | .dic kvs => okw (.dic kvs)
    | _ => match itemsD a with
      | some l => match pairsOf l with
        | some ps => okw (.dic (ps.foldl (fun acc p => dPut p.1 p.2 acc) []))
        | none => none
      | none => none
  | .isi cs, [a] => match a with
    | .nimp => none
    | .fn _ => none
    | .dic _ => none
    | .obj k _ => guardR (c.cls k) (okd (.bl (cs.any (isOne c a))))
    | _ => okd (.bl (cs.any (isOne c a)))
  | _, _ => none

/-! ### the language -/
inductive T where
  | v (i : Nat)
  | t (ts : List T)
  deriving Repr, Inhabited

inductive E where
  /-- a local, read: what it held alone is shared from then on -/
  | var (i : Nat)
  /-- a local, handed on: the slot holds nothing then -/
  | mov (i : Nat)
  /-- a local, or an attribute of one, where it lies -/
  | loc (i : Nat) (fs : List String)
  | con (d : D)
  | glb (x : String)
  | prim (p : Pr) (es : List E)
  | and_ (a b : E) | or_ (a b : E) | ite (c a b : E)
  | chain (p q : Pr) (a b c : E)
  /-- tests: a value's truth, of a local where it lies, not, and, or -/
  | tval (e : E) | tloc (i : Nat) (fs : List String) | tnot (a : E) | tand (a b : E) | tor (a b : E)
  | tup (es : List E)
  | lst (es : List E)
  | star (e : E)
  | dstar (e : E)
  | dict (ks vs : List E)
  | fstr (es : List E)
  | attr (e : E) (f : String)
  | fld (i : Nat) (fs : List String)
  | prop (e : E) (f : String)
  | call (f : String) (es : List E)
  | callv (f : E) (es : List E)
  | meth (m : String) (e : E) (es : List E)
  | make (c : String) (imm : Bool) (es : List E)
  | lc (elt : E) (t : T) (src : E) (cs : List E)
  | lc2 (elt : E) (t : T) (src : E) (cs : List E) (t2 : T) (src2 : E) (cs2 : List E)
  | range (es : List E)
  | enum (e : E)
  | zip (a b : E) (strict : Bool)
  | revd (e : E)
  | app (i : Nat) (fs : List String) (e : E)
  | ext (i : Nat) (fs : List String) (e : E)
  | pop (i : Nat) (fs : List String) (es : List E)
  | rem (i : Nat) (fs : List String) (e : E)
  | ins (i : Nat) (fs : List String) (k : E) (e : E)
  | clr (i : Nat) (fs : List String)
  | xfld (i : Nat) (f : String)
  | xis (i : Nat) (cs : List String)
  /-- a local that holds a dict, walked by its keys -/
  | dkeys (i : Nat)
  deriving Repr, Inhabited

inductive S where
  | asg (t : T) (e : E)
  /-- a, b = x, y -/
  | par (ts : List Nat) (es : List E)
  | fld (i : Nat) (fs : List String) (f : String) (e : E)
  | sub (i : Nat) (fs : List String) (k : E) (e : E)
  | aug (i : Nat) (p : Pr) (e : E)
  | augf (i : Nat) (fs : List String) (f : String) (p : Pr) (e : E)
  | expr (e : E)
  | ret (e : E)
  | ife (c : E) (a b : List S)
  | for_ (t : T) (src : E) (b : List S)
  | whl (c : E) (b : List S)
  | brk | cnt | pass
  | rse (c : String) (es : List E)
  | tri (b : List S) (cs : List String) (nm : Option Nat) (h : List S)
  deriving Repr, Inhabited

inductive Fl where
  | nx | rt (r : R) | bk | ct
  deriving Repr, Inhabited

inductive Arg where
  | r (x : R)
  | p (i : Nat) (fs : List String)
  deriving Repr, Inhabited

def getI (e : Env) (i : Nat) : Option R :=
  match e[i]? with
  | some (some r) => some r
  | _ => none
def getP : R → List String → Option R
  | r, [] => some r
  | r, f :: fs => match r with
    | .obj _ xs => match getFR f xs with | some q => getP q fs | none => none
    | .d (.obj _ xs) => match getF f xs with | some q => getP (.d q) fs | none => none
    | _ => none
/-- put at a path through own objects -/
def putP : R → List String → R → Option R
  | _, [], v => some v
  | r, f :: fs, v => match r with
    | .obj c xs => match getFR f xs with
      | some q => match putP q fs v with | some q' => some (.obj c (putFR f q' xs)) | none => none
      | none => none
    | _ => none
def getL (e : Env) (i : Nat) (fs : List String) : Option R :=
  match getI e i with
  | some r => getP r fs
  | none => none
def putL (e : Env) (i : Nat) (fs : List String) (v : R) : Option Env :=
  match getI e i with
  | some r => match putP r fs v with | some r' => some (e.set i (some r')) | none => none
  | none => none
def isD : R → Bool
  | .d _ => true
  | _ => false
/-- each attribute on the way is one of the instances alone -/
def pathOk (c : Ctx) : R → List String → Bool
  | _, [] => true
  | r, f :: fs => match r with
    | .obj k xs => c.att k f && (match getFR f xs with | some q => pathOk c q fs | none => false)
    | .d (.obj k xs) => c.att k f && (match getF f xs with | some q => pathOk c (.d q) fs | none => false)
    | _ => false
/-- what lies there -/
def peekM (c : Ctx) (i : Nat) (fs : List String) : M R := fun s =>
  match getI s i with
  | some r => if pathOk c r fs then (match getP r fs with | some q => some (.ok q, s) | none => none) else none
  | none => none
def dataM (r : R) : M R := match r with
  | .d x => M.pure (.d x)
  | _ => M.fail

/-- read for sharing -/
def shareL (i : Nat) (fs : List String) : M R := fun e =>
  match getL e i fs with
  | some (.d x) => some (.ok (.d x), e)
  | some r => match putL e i fs (.d r.frz) with
    | some e' => some (.ok (.d r.frz), e')
    | none => none
  | none => none
def moveI (i : Nat) : M R := fun e =>
  match getI e i with
  | some r => some (.ok r, e.set i none)
  | none => none
/-- what a primitive sees: not an own object -/
def R.val : R → Option D
  | .d x => some x
  | .own x => some x
  | .obj _ _ => none
def argD (e : Env) : Arg → Option D
  | .r x => x.val
  | .p i fs => (getL e i fs).bind R.val
def clsR : R → Option String
  | .d (.obj k _) => some k
  | .obj k _ => some k
  | _ => none
def clsA (e : Env) : Arg → Option String
  | .r x => clsR x
  | .p i fs => (getL e i fs).bind clsR
def argsD (e : Env) : List Arg → Option (List D)
  | [] => some []
  | a :: r => match argD e a, argsD e r with | some x, some l => some (x :: l) | _, _ => none
/-- the arguments of a def: what is lent is taken out of its slot -/
def takeA : List Arg → Env → Option (List R × Env)
  | [], e => some ([], e)
  | .r x :: as, e => match takeA as e with | some (rs, e') => some (x :: rs, e') | none => none
  | .p i fs :: as, e => match fs with
    | [] => match getI e i with
      | some (.d x) => match takeA as e with | some (rs, e') => some (.d x :: rs, e') | none => none
      | some r => match takeA as (e.set i none) with | some (rs, e') => some (r :: rs, e') | none => none
      | none => none
    | _ => none
/-- what a call leaves in what was lent -/
def giveA : List Arg → List R → List (Option R) → Env → Option Env
  | [], _, _, e => some e
  | .r _ :: as, rs, os, e => giveA as rs.tail os.tail e
  | .p i _ :: as, rs, os, e => match rs, os with
    | r :: rs, o :: os => if isD r then giveA as rs os e else (match o with
      | some q => giveA as rs os (e.set i (some q))
      | none => none)
    | _, _ => none

def callM (f : String → List R → Option (Rs R × List (Option R))) (nm : String) (as : List Arg) : M R := fun e =>
  match takeA as e with
  | none => none
  | some (rs, e1) => match f nm rs with
    | none => none
    | some (r, outs) => match giveA as rs outs e1 with | some e2 => some (r, e2) | none => none

/-- bind a target -/
def setSlot (c : Ctx) (i : Nat) (r : R) (e : Env) : Option Env :=
  if c.fx.contains i then none else if i < e.length then some (e.set i (some r)) else none
mutual
def bindT (c : Ctx) : T → R → Env → Option Env
  | .v i, r, e => setSlot c i r e
  | .t ts, r, e => match r.frz with
    | .tup ds => bindTs c ts ds e
    | .lst ds => bindTs c ts ds e
    | _ => none
termination_by structural x => x
def bindTs (c : Ctx) : List T → List D → Env → Option Env
  | [], ds, e => if ds.isEmpty then some e else none
  | t :: ts, ds, e => match ds with
    | d :: r => match bindT c t (.d d) e with | some e' => bindTs c ts r e' | none => none
    | [] => none
termination_by structural x => x
end
mutual
def varsT : T → List Nat
  | .v i => [i]
  | .t ts => varsTs ts
termination_by structural x => x
def varsTs : List T → List Nat
  | [] => []
  | t :: r => varsT t ++ varsTs r
termination_by structural x => x
end

/-- while: at most n turns -/
def whileF (cnd : M Bool) (body : M Fl) : Nat → M Fl
  | 0 => M.fail
  | n + 1 => M.bind cnd fun b => if b then M.bind body fun f => match f with
      | .nx => whileF cnd body n
      | .ct => whileF cnd body n
      | .bk => M.pure .nx
      | .rt r => M.pure (.rt r)
    else M.pure .nx
def forF (bnd : D → Env → Option Env) (body : M Fl) : List D → M Fl
  | [] => M.pure .nx
  | d :: ds => fun e => match bnd d e with
    | none => none
    | some e' => M.bind body (fun f => match f with
      | .nx => forF bnd body ds
      | .ct => forF bnd body ds
      | .bk => M.pure .nx
      | .rt r => M.pure (.rt r)) e'
/-- a comprehension: the items one behind another; nothing may be raised in it -/
def lcF (bnd : D → Env → Option Env) (cnd : M Bool) (elt : M (List D)) : List D → Env → Option (List D × Env)
  | [], e => some ([], e)
  | d :: ds, e => match bnd d e with
    | none => none
    | some e1 => match cnd e1 with
      | some (.ok true, e2) => match elt e2 with
        | some (.ok xs, e3) => match lcF bnd cnd elt ds e3 with
          | some (r, e4) => some (xs ++ r, e4)
          | none => none
        | _ => none
      | some (.ok false, e2) => lcF bnd cnd elt ds e2
      | _ => none
def maskE (is : List Nat) (e : Env) : Env := is.foldl (fun x i => x.set i none) e
def restE (is : List Nat) (e e' : Env) : Env := is.foldl (fun x i => x.set i ((e[i]?).getD none)) e'
/-- the slots is are as before behind it -/
def keepM (is : List Nat) (m : Env → Option (List D × Env)) : M (List D) := fun e =>
  match m e with
  | none => none
  | some (r, e') => some (.ok r, restE is e e')

def itemsN (d : D) : Option (List D) :=
  match d with
  | .dic _ => none
  | d => itemsD d
/-- a local that is walked: what it holds alone is taken out of its slot -/
def lockL (i : Nat) (fs : List String) : M (List D × Option (Nat × D)) := fun e =>
  match getL e i fs with
  | some (.d x) => match itemsN x with
    | some l => some (.ok (l, none), e)
    | none => none
  | some (.own x) => match fs with
    | [] => match itemsN x with
      | some l => some (.ok (l, some (i, x)), e.set i none)
      | none => none
    | _ => none
  | _ => none
def unlockL : Option (Nat × D) → Env → Option Env
  | none, e => some e
  | some (i, x), e => match e[i]? with
    | some none => some (e.set i (some (.own x)))
    | _ => none
/-- walk a source with m -/
def walkM {α : Type} (w : M (List D × Option (Nat × D))) (m : List D → M α) : M α :=
  M.bind w fun p e => match m p.1 e with
    | some (r, e') => match unlockL p.2 e' with | some e2 => some (r, e2) | none => none
    | none => none
def nums (a : Int) : Nat → List D
  | 0 => []
  | n + 1 => .int a :: nums (a + 1) n
def enumD : Int → List D → List D
  | _, [] => []
  | i, d :: r => .tup [.int i, d] :: enumD (i + 1) r
def zipD : List D → List D → List D
  | a :: r, b :: q => .tup [a, b] :: zipD r q
  | _, _ => []
def ofRange : List D → Option (List D)
  | [.int b] => if decide (b.natAbs < 2 ^ 62) then some (nums 0 b.toNat) else none
  | [.int a, .int b] => if decide (a.natAbs < 2 ^ 62) && decide (b.natAbs < 2 ^ 62) then some (nums a (b - a).toNat) else none
  | _ => none

/-- change what an own list or dict holds -/
def modL {α : Type} (i : Nat) (fs : List String) (g : D → Option (D × α)) : M α := fun e =>
  match getL e i fs with
  | some (.own x) => match g x with
    | some (y, a) => match putL e i fs (.own y) with | some e' => some (.ok a, e') | none => none
    | none => none
  | _ => none
def remEq (c : Ctx) (x : D) : List D → Option (List D)
  | [] => none
  | y :: r => match eqD c y x with
    | some true => some r
    | some false => match remEq c x r with | some l => some (y :: l) | none => none
    | none => none
def setAt (x : D) : Nat → List D → Option (List D)
  | _, [] => none
  | 0, _ :: r => some (x :: r)
  | n + 1, y :: r => match setAt x n r with | some l => some (y :: l) | none => none
def fldOf (fs : List (String × D)) (f : String) : M R := M.opt ((getF f fs).map R.d)

/-- an argument: where it lies, or its value -/
def argM (e : E) (v : M R) : M Arg :=
  match e with
  | .loc i fs => fun s => match getL s i fs with | some _ => some (.ok (.p i fs), s) | none => none
  | _ => M.bind v fun x => M.pure (.r x)
def itemsT : D → Option (List D)
  | .tup ds => some ds
  | .lst ds => some ds
  | _ => none
/-- an item of a display -/
def itemM (e : E) (v : M R) : M (List D) :=
  M.bind v fun x => match e with
    | .star _ => M.opt (itemsT x.frz)
    | _ => M.pure [x.frz]
/-- a dict is walked where it is a local, or an attribute of one -/
def dicSrc : E → Bool
  | .dkeys _ => true
  | _ => false
def itemsK : D → Option (List D)
  | .dic kvs => some (kvs.map (·.1))
  | _ => none
/-- what is walked: the items; what is taken out -/
def walkS (e : E) (v : M R) : M (List D × Option (Nat × D)) :=
  match e with
  | .loc i fs => lockL i fs
  | e => M.bind v fun x => M.bind (M.opt (if dicSrc e then itemsK x.frz else itemsN x.frz)) fun l => M.pure (l, none)
def pairM (k : E) (x y : M R) (r : M (List (D × D))) : M (List (D × D)) :=
  match k with
  | .dstar _ => M.bind x fun x => match x.frz with
    | .dic l => M.bind r fun r => M.pure (l ++ r)
    | _ => M.fail
  | _ => M.bind x fun x => M.bind y fun y => if isKey x.frz then M.bind r fun r => M.pure ((x.frz, y.frz) :: r) else M.fail
def shareA (a : Arg) : M R := fun s => match argD s a with
  | some d => some (.ok (.d d), s)
  | none => none

mutual
/-- an expression's value -/
def ev (c : Ctx) : E → M R
  | .var i => shareL i []
  | .mov i => moveI i
  | .loc _ _ => M.fail
  | .con d => M.pure (.d d)
  | .glb x => M.opt ((c.const x).bind fun d => match d with | .non => some (.d .non) | .bl b => some (.d (.bl b)) | .int i => some (.d (.int i)) | .str s => some (.d (.str s)) | .fn f => some (.d (.fn f)) | _ => none)
  | .prim p es => M.bind (evs c es) fun as e => match argsD e as with
      | none => none
      | some ds => M.lift (prim c p ds) e
  | .and_ a b => M.bind (ev c a) fun x => M.bind (M.opt (truthD c x.frz)) fun t => if t then ev c b else M.pure (.d x.frz)
  | .or_ a b => M.bind (ev c a) fun x => M.bind (M.opt (truthD c x.frz)) fun t => if t then M.pure (.d x.frz) else ev c b
  | .ite t a b => M.bind (evt c t) fun t => if t then ev c a else ev c b
  | .tval _ => M.fail
  | .tloc _ _ => M.fail
  | .tnot _ => M.fail
  | .tand _ _ => M.fail
  | .tor _ _ => M.fail
  | .chain p q x y z => M.bind (ev c x) fun u => M.bind (ev c y) fun v => M.bind (M.lift (prim c p [u.frz, v.frz])) fun s =>
      match s with
      | .d (.bl true) => M.bind (ev c z) fun w => M.lift (prim c q [v.frz, w.frz])
      | .d (.bl false) => M.pure (.d (.bl false))
      | _ => M.fail
  | .tup es => M.bind (evi c es) fun ds => M.opt (if ds.length ≤ sizeMax then some (.d (.tup ds)) else none)
  | .lst es => M.bind (evi c es) fun ds => M.opt (if ds.length ≤ sizeMax then some (.own (.lst ds)) else none)
  | .star e => M.bind (argM e (ev c e)) shareA
  | .dstar e => M.bind (argM e (ev c e)) shareA
  | .dict ks vs => M.bind (evk c ks (evm c vs)) fun kvs => M.pure (.own (.dic (kvs.foldl (fun acc p => dPut p.1 p.2 acc) [])))
  | .fstr es => M.bind (M.quiet (evi c es)) fun ds => M.opt ((strsOf ds).bind fun l => if decide ((l.map (·.length)).sum ≤ sizeMax) then some (R.d (.str l.flatten)) else none)
  | .attr e f => M.bind (ev c e) fun x => match x.frz with
      | .obj k fs => if c.att k f then fldOf fs f else M.fail
      | _ => M.fail
  | .fld i fs => M.bind (peekM c i fs) dataM
  | .dkeys i => shareL i []
  | .prop e f => M.bind (argM e (ev c e)) fun a s => match clsA s a with
      | some k => callM c.call (k ++ "." ++ f) [a] s
      | _ => none
  | .call f es => M.bind (evs c es) fun as => callM c.call f as
  | .callv f es => M.bind (ev c f) fun g => M.bind (evs c es) fun as => match g.frz with
      | .fn x => callM c.call x as
      | _ => M.fail
  | .meth m o es => M.bind (argM o (ev c o)) fun a1 => M.bind (evs c es) fun as => fun e => match clsA e a1 with
      | some k => callM c.call (k ++ "." ++ m) (a1 :: as) e
      | _ => none
  | .make k imm es => M.bind (evs c es) fun as => fun e =>
      match callM c.call1 (k ++ ".__init__") (.p e.length [] :: as) (e ++ [some (.obj k [])]) with
      | some (.ok (.d .non), e') => match getI e' e.length with
        | some (.obj k fs) => some (.ok (if imm then .d (R.obj k fs).frz else .obj k fs), e'.take e.length)
        | _ => none
      | some (.ex x, e') => some (.ex x, e'.take e.length)
      | _ => none
  | .lc elt t src cs => M.bind (walkM (walkS src (ev c src)) fun items => keepM (varsT t)
      (lcF (fun d e => bindT c t (.d d) (maskE (varsT t) e)) (evc c cs) (M.bind (ev c elt) fun x => M.pure [x.frz]) items)) fun ds => M.opt (if ds.length ≤ sizeMax then some (.own (.lst ds)) else none)
  | .lc2 elt t src cs t2 src2 cs2 => M.bind (walkM (walkS src (ev c src)) fun items => keepM (varsT t ++ varsT t2)
      (lcF (fun d e => bindT c t (.d d) (maskE (varsT t ++ varsT t2) e)) (evc c cs) (walkM (walkS src2 (ev c src2)) fun items2 e =>
        match lcF (fun d e => bindT c t2 (.d d) (maskE (varsT t2) e)) (evc c cs2) (M.bind (ev c elt) fun x => M.pure [x.frz]) items2 e with
        | some (r, e') => some (.ok r, e')
        | none => none) items)) fun ds => M.opt (if ds.length ≤ sizeMax then some (.own (.lst ds)) else none)
  | .range es => M.bind (evi c es) fun ds => M.opt ((ofRange ds).map fun l => R.d (.lst l))
  | .enum e => M.bind (argM e (ev c e)) fun a s => match (argD s a).bind itemsD with
    | some l => some (.ok (.d (.lst (enumD 0 l))), s)
    | none => none
  | .zip a b strict => M.bind (argM a (ev c a)) fun x => M.bind (argM b (ev c b)) fun y s => match (argD s x).bind itemsD, (argD s y).bind itemsD with
    | some l, some r => if strict && l.length != r.length then none else some (.ok (.d (.lst (zipD l r))), s)
    | _, _ => none
  | .revd e => M.bind (argM e (ev c e)) fun a s => match (argD s a).bind itemsD with
    | some l => some (.ok (.d (.lst l.reverse)), s)
    | none => none
  | .app i fs e => M.bind (ev c e) fun x => modL i fs fun l => match l with
      | .lst ds => if ds.length < sizeMax then some (.lst (ds ++ [x.frz]), .d .non) else none
      | _ => none
  | .ext i fs e => M.bind (argM e (ev c e)) fun a s => match argD s a with
      | some d => match itemsD d with
        | some l => modL i fs (fun x => match x with
          | .lst ds => if ds.length + l.length ≤ sizeMax then some (.lst (ds ++ l), .d .non) else none
          | _ => none) s
        | none => none
      | none => none
  | .pop i fs es => M.bind (evi c es) fun ks => modL i fs fun x => match x, ks with
      | .lst ds, [] => match ds.getLast? with | some d => some (.lst ds.dropLast, .d d) | none => none
      | .lst ds, [.int k] => match (ixNat ds.length k).bind fun n => (ds[n]?).map fun d => (n, d) with
        | some p => some (.lst (ds.eraseIdx p.1), .d p.2)
        | none => none
      | _, _ => none
  | .rem i fs e => M.bind (ev c e) fun x => modL i fs fun l => match l with
      | .lst ds => match remEq c x.frz ds with | some r => some (.lst r, .d .non) | none => none
      | _ => none
  | .ins i fs k e => M.bind (ev c k) fun n => M.bind (ev c e) fun x => modL i fs fun l => match l, n.frz with
      | .lst ds, .int j => if decide (j.natAbs < 2 ^ 62) && decide (ds.length < sizeMax) then some (.lst (ds.take (clampIx ds.length j) ++ x.frz :: ds.drop (clampIx ds.length j)), .d .non) else none
      | _, _ => none
  | .clr i fs => modL i fs fun l => match l with
      | .lst _ => some (.lst [], .d .non)
      | _ => none
  | .xfld i f => match c.xn with
      | some p => if p.1 = i then M.opt ((getF f p.2.fs).map R.d) else M.fail
      | none => M.fail
  | .xis i ks => match c.xn with
      | some p => if p.1 = i && p.2.fs.isEmpty then M.pure (.d (.bl (ks.any fun q => q == p.2.c || (c.sub p.2.c).contains q))) else M.fail
      | none => M.fail
termination_by structural x => x
/-- arguments: by value, or where they lie -/
def evs (c : Ctx) : List E → M (List Arg)
  | [] => M.pure []
  | e :: r => M.bind (argM e (ev c e)) fun a => M.bind (evs c r) fun as => M.pure (a :: as)
termination_by structural x => x
/-- items of a display -/
def evi (c : Ctx) : List E → M (List D)
  | [] => M.pure []
  | e :: r => M.bind (itemM e (ev c e)) fun xs => M.bind (evi c r) fun ds => M.pure (xs ++ ds)
termination_by structural x => x
def evk (c : Ctx) : List E → List (M R) → M (List (D × D))
  | [], _ => M.pure []
  | k :: ks, vs => match vs with
    | v :: ws => pairM k (ev c k) v (evk c ks ws)
    | [] => M.fail
termination_by structural x => x
def evm (c : Ctx) : List E → List (M R)
  | [] => []
  | e :: r => ev c e :: evm c r
termination_by structural x => x
/-- tests -/
def evc (c : Ctx) : List E → M Bool
  | [] => M.pure true
  | e :: r => M.bind (evt c e) fun b => if b then evc c r else M.pure false
termination_by structural x => x
def evt (c : Ctx) : E → M Bool
  | .tval e => M.bind (ev c e) fun x => M.opt (x.val.bind (truthD c))
  | .tloc i fs => fun s => match (getL s i fs).bind R.val with
    | some d => match truthD c d with | some b => some (.ok b, s) | none => none
    | none => none
  | .tnot a => M.bind (evt c a) fun b => M.pure (!b)
  | .tand a b => M.bind (evt c a) fun t => if t then evt c b else M.pure false
  | .tor a b => M.bind (evt c a) fun t => if t then M.pure true else evt c b
  | _ => M.fail
termination_by structural x => x
end

/-! ### statements -/
/-- within a walk over a local this one is not stored -/
def fixC (c : Ctx) : E → Ctx
  | .loc i _ => { c with fx := i :: c.fx }
  | _ => c
def evr (c : Ctx) : List E → M (List R)
  | [] => M.pure []
  | e :: r => M.bind (ev c e) fun x => M.bind (evr c r) fun l => M.pure (x :: l)
def setSlots (c : Ctx) : List Nat → List R → Env → Option Env
  | [], [], e => some e
  | i :: is, r :: rs, e => match setSlot c i r e with | some e' => setSlots c is rs e' | none => none
  | _, _, _ => none
mutual
def ex (c : Ctx) : S → M Fl
  | .par is es => M.bind (evr c es) fun rs s => match setSlots c is rs s with | some s' => some (.ok .nx, s') | none => none
  | .asg t e => M.bind (ev c e) fun r s => match bindT c t r s with | some s' => some (.ok .nx, s') | none => none
  | .fld i fs f e => M.bind (ev c e) fun r s => match getL s i fs with
      | some (.obj k xs) => if c.att k f && decide (xs.length < 900) then (match putL s i fs (.obj k (putFR f r xs)) with | some s' => some (.ok .nx, s') | none => none) else none
      | _ => none
  | .sub i fs k e => M.bind (ev c e) fun v => M.bind (argM (.loc i fs) M.fail) fun _ => M.bind (ev c k) fun k => M.bind (modL i fs fun x => match x with
      | .dic kvs => if isKey k.frz && sameKind k.frz kvs && decide (kvs.length < sizeMax) then some (.dic (dPut k.frz v.frz kvs), ()) else none
      | .lst ds => match k.frz with
        | .int j => match (ixNat ds.length j).bind fun n => setAt v.frz n ds with | some l => some (.lst l, ()) | none => none
        | _ => none
      | _ => none) fun _ => M.pure .nx
  | .aug i p e => M.bind (argM (.loc i []) M.fail) fun a => M.bind (ev c e) fun y s => match argD s a with
      | some x => M.bind (M.lift (prim c p [x, y.frz])) (fun r s => match setSlot c i r s with | some s' => some (.ok .nx, s') | none => none) s
      | none => none
  | .augf i fs f p e => fun s => match getL s i fs with
      | some (.obj _ xs) => match getFR f xs with
        | some (.d x) => M.bind (ev c e) (fun y => M.bind (M.lift (prim c p [x, y.frz])) fun r s => match getL s i fs with
            | some (.obj k ys) => match putL s i fs (.obj k (putFR f r ys)) with | some s' => some (.ok .nx, s') | none => none
            | _ => none) s
        | _ => none
      | _ => none
  | .expr e => M.bind (ev c e) fun _ => M.pure .nx
  | .ret e => M.bind (ev c e) fun r => M.pure (.rt r)
  | .ife t a b => M.bind (evt c t) fun t => if t then exs c a else exs c b
  | .for_ t src b => quietIf (dicSrc src) (walkM (walkS src (ev c src)) (forF (fun d => bindT (fixC c src) t (.d d)) (exs (fixC c src) b)))
  | .whl t b => whileF (evt c t) (exs c b) c.fuel
  | .brk => M.pure .bk
  | .cnt => M.pure .ct
  | .pass => M.pure .nx
  | .rse k es => M.bind (evs c es) fun as s => match as with
      | [] => if c.has (k ++ ".__init__") then none else some (.ex ⟨k, []⟩, s)
      | _ => match callM c.call1 (k ++ ".__init__") (.p s.length [] :: as) (s ++ [some (.obj k [])]) with
        | some (.ok (.d .non), s') => match getI s' s.length with
          | some (.obj _ fs) => some (.ex ⟨k, R.frzs fs⟩, s'.take s.length)
          | _ => none
        | _ => none
  | .tri b ks nm h => fun s => match exs c b s with
      | some (.ex x, s') => if c.exc x.c then (if ks.any (fun k => k == x.c || (c.sub x.c).contains k) then
          match nm with
          | none => M.quiet (exs c h) s'
          | some i => if c.fx.contains i || !(decide (i < s'.length)) then none else match exs { c with fx := i :: c.fx, xn := some (i, x) } h (s'.set i none) with
            | some (.ok r, s2) => some (.ok r, s2.set i none)
            | _ => none
        else some (.ex x, s')) else none
      | r => r
termination_by structural x => x
def exs (c : Ctx) : List S → M Fl
  | [] => M.pure .nx
  | s :: r => M.bind (ex c s) fun f => match f with
      | .nx => exs c r
      | f => M.pure f
termination_by structural x => x
end

/-! ### a text -/
structure Fn where
  np : Nat
  ns : Nat
  dflt : List D
  body : List S
  deriving Repr, Inhabited
structure Pg where
  fns : List (String × Fn)
  cls : List (String × List String)
  cst : List (String × D)
  /-- the plain classes; the exceptions -/
  own : List String
  exc : List String
  deriving Repr, Inhabited
def getFn (f : String) : List (String × Fn) → Option Fn
  | [] => none
  | p :: r => if p.1 = f then some p.2 else getFn f r
def getCls (f : String) : List (String × List String) → List String
  | [] => []
  | p :: r => if p.1 = f then p.2 else getCls f r
/-- the places of what was lent -/
def lentIx : Nat → List R → List Nat
  | _, [] => []
  | i, r :: rs => if isD r then lentIx (i + 1) rs else i :: lentIx (i + 1) rs
/-- what is left of the arguments -/
def outsOf : List R → Env → List (Option R)
  | [], _ => []
  | r :: rs, e => (if isD r then some r else getI e 0) :: outsOf rs e.tail
/-- a def's body, run -/
def runFn (c : Ctx) (fn : Fn) (as : List R) : Option (Rs R × List (Option R)) :=
  match exs { c with fx := lentIx 0 as } fn.body (as.map some ++ List.replicate (fn.ns - fn.np) none) with
  | some (.ok (.rt r), e) => some (.ok r, outsOf as e)
  | some (.ok .nx, e) => some (.ok (.d .non), outsOf as e)
  | some (.ok _, _) => none
  | some (.ex x, e) => some (.ex x, outsOf as e)
  | none => none
def callN (P : Pg) (fuel : Nat) : Nat → String → List R → Option (Rs R × List (Option R))
  | 0, _, _ => none
  | n + 1, f, args =>
    match getFn f P.fns with
    | none => none
    | some fn =>
      let as := args ++ (fn.dflt.drop (args.length + fn.dflt.length - fn.np)).map R.d
      if as.length = fn.np then
        runFn { call := callN P fuel n, call1 := (match n with | 0 => fun _ _ => none | m + 1 => callN P fuel m), has := fun g => (getFn g P.fns).isSome, cls := fun k => P.own.contains k, att := fun k f => P.own.contains k && (getFn (k ++ "." ++ f) P.fns).isNone, sub := fun k => getCls k P.cls,
                    const := fun x => getF x P.cst, fx := [], exc := fun k => P.exc.contains k, xn := none, fuel := fuel } fn as
      else none
end Mini
/-! Mini, part B: how the language's data lie in the abstract heap. -/
namespace Mini
open PySem L2

def toS (s : Cs) : Str := ⟨s.toArray⟩
theorem toS_inj {s t : Cs} (h : toS s = toS t) : s = t := by
  have : s.toArray = t.toArray := congrArg Str.cps h
  simpa using this
theorem ofString_inj {a b : String} (h : Str.ofString a = Str.ofString b) : a = b := by
  have e : (cpsOfBytes 0 0 a.toByteArray.data.toList).toArray = (cpsOfBytes 0 0 b.toByteArray.data.toList).toArray := congrArg Str.cps h
  rw [cpsOfBytes_string, cpsOfBytes_string] at e
  have e2 : a.toList.map Char.toNat = b.toList.map Char.toNat := by simpa using e
  have inj : ∀ x y : Char, x.toNat = y.toNat → x = y := fun x y q => by
    apply Char.ext
    exact UInt32.toNat_inj.mp q
  have e3 : a.toList = b.toList := by
    revert e2
    generalize a.toList = l
    generalize b.toList = m
    intro e2
    induction l generalizing m with
    | nil => cases m with
      | nil => rfl
      | cons y r => simp at e2
    | cons x r ih => cases m with
      | nil => simp at e2
      | cons y q =>
        simp only [List.map_cons, List.cons.injEq] at e2
        rw [inj _ _ e2.1, ih _ e2.2]
  exact String.toList_inj.mp e3
theorem ofString_ne {a b : String} (h : a ≠ b) : Str.ofString a ≠ Str.ofString b := fun e => h (ofString_inj e)

/-- what is fixed through a law -/
structure Gs where
  K : PySem.W.Frag
  ca : String → Addr
  fa : String → Addr

structure Adr where
  ca : String → Addr
  fa : String → Addr

/-- an object of the heap, without its lock -/
def st1 : Option HO → Option HO
  | some (.frz _ (.lst x)) => some (.lst x)
  | some (.frz _ (.dK x)) => some (.dK x)
  | some (.frz _ (.dT x)) => some (.dT x)
  | o => o
theorem st1_lst {H : Hp} {a : Addr} {x : List V} : st1 (H a) = some (.lst x) ↔ Rd H a (.lst x) := by
  constructor
  · intro h
    cases e : H a with
    | none => rw [e] at h; cases h
    | some o =>
      rw [e] at h
      cases o with
      | lst y => left; rw [e]; exact h
      | frz ob u => cases u <;> first | (cases h; right; exact ⟨_, e⟩) | (cases h)
      | _ => cases h
  · rintro (h | ⟨o, h⟩) <;> rw [h] <;> rfl
theorem st1_dK {H : Hp} {a : Addr} {x : List (Key × V)} : st1 (H a) = some (.dK x) ↔ Rd H a (.dK x) := by
  constructor
  · intro h
    cases e : H a with
    | none => rw [e] at h; cases h
    | some o =>
      rw [e] at h
      cases o with
      | dK y => left; rw [e]; exact h
      | frz ob u => cases u <;> first | (cases h; right; exact ⟨_, e⟩) | (cases h)
      | _ => cases h
  · rintro (h | ⟨o, h⟩) <;> rw [h] <;> rfl
theorem st1_dT {H : Hp} {a : Addr} {x : List (List Key × V)} : st1 (H a) = some (.dT x) ↔ Rd H a (.dT x) := by
  constructor
  · intro h
    cases e : H a with
    | none => rw [e] at h; cases h
    | some o =>
      rw [e] at h
      cases o with
      | dT y => left; rw [e]; exact h
      | frz ob u => cases u <;> first | (cases h; right; exact ⟨_, e⟩) | (cases h)
      | _ => cases h
  · rintro (h | ⟨o, h⟩) <;> rw [h] <;> rfl
theorem st1_tup {H : Hp} {a : Addr} {x : List V} : st1 (H a) = some (.tup x) ↔ H a = some (.tup x) := by
  constructor
  · intro h
    cases e : H a with
    | none => rw [e] at h; cases h
    | some o =>
      rw [e] at h
      cases o with
      | tup y => exact h
      | frz ob u => cases u <;> cases h
      | _ => cases h
  · intro h; rw [h]; rfl
theorem st1_ins {H : Hp} {a C dx : Addr} {x : List (Str × V)} : st1 (H a) = some (.ins C dx x) ↔ H a = some (.ins C dx x) := by
  constructor
  · intro h
    cases e : H a with
    | none => rw [e] at h; cases h
    | some o =>
      rw [e] at h
      cases o with
      | ins C' d' y => exact h
      | frz ob u => cases u <;> cases h
      | _ => cases h
  · intro h; rw [h]; rfl
theorem st1_some {o : HO} : ∃ u, st1 (some o) = some u := by
  cases o with
  | frz ob u => cases u <;> exact ⟨_, rfl⟩
  | _ => exact ⟨_, rfl⟩
theorem st1_none {o : Option HO} : st1 o = none ↔ o = none := by
  constructor
  · intro h
    cases o with
    | none => rfl
    | some o => obtain ⟨u, e⟩ := st1_some (o := o); rw [e] at h; cases h
  · intro h; rw [h]; rfl

/-- a tuple of the written part: not served -/
def KT (_ : PySem.W.Frag) (_ : Addr) (_ : List V) : Prop := False
/-- a list of the written part -/
def KL (K : PySem.W.Frag) (a : Addr) (vs : List V) : Prop := ∃ (o : Obj) (its : Array Value) (n : Nat), K.lookup a = some o ∧ o.cls = .type "list" ∧ o.dict = none ∧ o.data = .seq its n ∧ its.size ≤ sizeLine ∧ Vals vs its.toList

def keyR : D → Key → Prop
  | .int i, .inl j => i = j
  | .str s, .inr x => x = toS s
  | _, _ => False
def keysR : List D → List Key → Prop
  | [], ks => ks = []
  | d :: r, ks => ∃ k q, ks = k :: q ∧ keyR d k ∧ keysR r q
def keyT : D → List Key → Prop
  | .tup ds, ks => keysR ds ks
  | _, _ => False

mutual
/-- v is the data, all of it at frozen places -/
def Rep (G : Gs) (F : Addr → Prop) (H : Hp) : D → V → Prop
  | .non, v => v = .non
  | .bl b, v => v = .bl b
  | .int i, v => v = .int i
  | .str s, v => v = .str (toS s)
  | .tup ds, v => ∃ a vs, v = .ref a ∧ ((F a ∧ H a = some (.tup vs)) ∨ KT G.K a vs) ∧ Reps G F H ds vs
  | .lst ds, v => ∃ a vs, v = .ref a ∧ ((F a ∧ st1 (H a) = some (.lst vs)) ∨ KL G.K a vs) ∧ Reps G F H ds vs
  | .dic kvs, v => ∃ a, v = .ref a ∧ F a ∧ ((∃ ks, st1 (H a) = some (.dK ks) ∧ RepK G F H kvs ks) ∨ (∃ ks, st1 (H a) = some (.dT ks) ∧ RepT G F H kvs ks))
  | .obj c fs, v => ∃ a dx xs, v = .ref a ∧ F a ∧ H a = some (.ins (G.ca c) dx xs) ∧ Repf G F H fs xs
  | .fn x, v => v = .ref (G.fa x)
  | .nimp, _ => False
termination_by structural x => x
def Reps (G : Gs) (F : Addr → Prop) (H : Hp) : List D → List V → Prop
  | [], vs => vs = []
  | d :: r, vs => ∃ v q, vs = v :: q ∧ Rep G F H d v ∧ Reps G F H r q
termination_by structural x => x
def RepK (G : Gs) (F : Addr → Prop) (H : Hp) : List (D × D) → List (Key × V) → Prop
  | [], ks => ks = []
  | p :: r, ks => ∃ k v q, ks = (k, v) :: q ∧ RepKp G F H p k v ∧ RepK G F H r q
termination_by structural x => x
def RepKp (G : Gs) (F : Addr → Prop) (H : Hp) : D × D → Key → V → Prop
  | (x, d), k, v => keyR x k ∧ Rep G F H d v
termination_by structural x => x
def RepT (G : Gs) (F : Addr → Prop) (H : Hp) : List (D × D) → List (List Key × V) → Prop
  | [], ks => ks = []
  | p :: r, ks => ∃ k v q, ks = (k, v) :: q ∧ RepTp G F H p k v ∧ RepT G F H r q
termination_by structural x => x
def RepTp (G : Gs) (F : Addr → Prop) (H : Hp) : D × D → List Key → V → Prop
  | (x, d), k, v => keyT x k ∧ Rep G F H d v
termination_by structural x => x
def Repf (G : Gs) (F : Addr → Prop) (H : Hp) : List (String × D) → List (Str × V) → Prop
  | [], xs => xs = []
  | p :: r, xs => ∃ v q, xs = (Str.ofString p.1, v) :: q ∧ Repfp G F H p v ∧ Repf G F H r q
termination_by structural x => x
def Repfp (G : Gs) (F : Addr → Prop) (H : Hp) : String × D → V → Prop
  | (_, d), v => Rep G F H d v
termination_by structural x => x
end

section
variable {G : Gs} {F F' : Addr → Prop} {H H' : Hp}
mutual
theorem Rep.mono (hF : ∀ b, F b → F' b) (hk : ∀ b, F b → st1 (H' b) = st1 (H b)) : ∀ {d : D} {v : V}, Rep G F H d v → Rep G F' H' d v
  | .non, _, h => h
  | .bl _, _, h => h
  | .int _, _, h => h
  | .str _, _, h => h
  | .fn _, _, h => h
  | .nimp, _, h => h
  | .tup ds, _, h => by
    simp only [Rep] at h ⊢
    obtain ⟨a, vs, e, p, r⟩ := h
    refine ⟨a, vs, e, ?_, Reps.mono hF hk r⟩
    rcases p with ⟨f, p⟩ | p
    · exact .inl ⟨hF _ f, st1_tup.mp ((hk _ f).trans (st1_tup.mpr p))⟩
    · exact .inr p
  | .lst ds, _, h => by
    simp only [Rep] at h ⊢
    obtain ⟨a, vs, e, p, r⟩ := h
    refine ⟨a, vs, e, ?_, Reps.mono hF hk r⟩
    rcases p with ⟨f, p⟩ | p
    · exact .inl ⟨hF _ f, (hk _ f).trans p⟩
    · exact .inr p
  | .dic kvs, _, h => by
    simp only [Rep] at h ⊢
    obtain ⟨a, e, f, p⟩ := h
    refine ⟨a, e, hF _ f, ?_⟩
    rcases p with ⟨ks, p, q⟩ | ⟨ks, p, q⟩
    · exact .inl ⟨ks, (hk _ f).trans p, RepK.mono hF hk q⟩
    · exact .inr ⟨ks, (hk _ f).trans p, RepT.mono hF hk q⟩
  | .obj c fs, _, h => by
    simp only [Rep] at h ⊢
    obtain ⟨a, dx, xs, e, f, p, q⟩ := h
    exact ⟨a, dx, xs, e, hF _ f, st1_ins.mp ((hk _ f).trans (st1_ins.mpr p)), Repf.mono hF hk q⟩
termination_by structural d => d
theorem Reps.mono (hF : ∀ b, F b → F' b) (hk : ∀ b, F b → st1 (H' b) = st1 (H b)) : ∀ {ds : List D} {vs : List V}, Reps G F H ds vs → Reps G F' H' ds vs
  | [], _, h => by simpa only [Reps] using h
  | d :: r, _, h => by
    simp only [Reps] at h ⊢
    obtain ⟨v, q, e, x, y⟩ := h
    exact ⟨v, q, e, Rep.mono hF hk x, Reps.mono hF hk y⟩
termination_by structural ds => ds
theorem RepK.mono (hF : ∀ b, F b → F' b) (hk : ∀ b, F b → st1 (H' b) = st1 (H b)) : ∀ {ds : List (D × D)} {vs : List (Key × V)}, RepK G F H ds vs → RepK G F' H' ds vs
  | [], _, h => by simpa only [RepK] using h
  | d :: r, _, h => by
    simp only [RepK] at h ⊢
    obtain ⟨k, v, q, e, x, y⟩ := h
    exact ⟨k, v, q, e, RepKp.mono hF hk x, RepK.mono hF hk y⟩
termination_by structural ds => ds
theorem RepKp.mono (hF : ∀ b, F b → F' b) (hk : ∀ b, F b → st1 (H' b) = st1 (H b)) : ∀ {d : D × D} {k : Key} {v : V}, RepKp G F H d k v → RepKp G F' H' d k v
  | (x, d), _, _, h => by
    simp only [RepKp] at h ⊢
    exact ⟨h.1, Rep.mono hF hk h.2⟩
termination_by structural d => d
theorem RepT.mono (hF : ∀ b, F b → F' b) (hk : ∀ b, F b → st1 (H' b) = st1 (H b)) : ∀ {ds : List (D × D)} {vs : List (List Key × V)}, RepT G F H ds vs → RepT G F' H' ds vs
  | [], _, h => by simpa only [RepT] using h
  | d :: r, _, h => by
    simp only [RepT] at h ⊢
    obtain ⟨k, v, q, e, x, y⟩ := h
    exact ⟨k, v, q, e, RepTp.mono hF hk x, RepT.mono hF hk y⟩
termination_by structural ds => ds
theorem RepTp.mono (hF : ∀ b, F b → F' b) (hk : ∀ b, F b → st1 (H' b) = st1 (H b)) : ∀ {d : D × D} {k : List Key} {v : V}, RepTp G F H d k v → RepTp G F' H' d k v
  | (x, d), _, _, h => by
    simp only [RepTp] at h ⊢
    exact ⟨h.1, Rep.mono hF hk h.2⟩
termination_by structural d => d
theorem Repf.mono (hF : ∀ b, F b → F' b) (hk : ∀ b, F b → st1 (H' b) = st1 (H b)) : ∀ {ds : List (String × D)} {vs : List (Str × V)}, Repf G F H ds vs → Repf G F' H' ds vs
  | [], _, h => by simpa only [Repf] using h
  | d :: r, _, h => by
    simp only [Repf] at h ⊢
    obtain ⟨v, q, e, x, y⟩ := h
    exact ⟨v, q, e, Repfp.mono hF hk x, Repf.mono hF hk y⟩
termination_by structural ds => ds
theorem Repfp.mono (hF : ∀ b, F b → F' b) (hk : ∀ b, F b → st1 (H' b) = st1 (H b)) : ∀ {d : String × D} {v : V}, Repfp G F H d v → Repfp G F' H' d v
  | (x, d), _, h => by
    simp only [Repfp] at h ⊢
    exact Rep.mono hF hk h
termination_by structural d => d
end

/-- what an own place holds -/
def OwnAt (G : Gs) (F : Addr → Prop) (H : Hp) (a : Addr) : D → Prop
  | .lst ds => ∃ vs, H a = some (.lst vs) ∧ Reps G F H ds vs
  | .dic kvs => (∃ ks, H a = some (.dK ks) ∧ RepK G F H kvs ks) ∨ (∃ ks, kvs ≠ [] ∧ H a = some (.dT ks) ∧ RepT G F H kvs ks)
  | _ => False
mutual
/-- v is what a slot holds; the places that it holds alone -/
def SlR (G : Gs) (F : Addr → Prop) (H : Hp) : R → V → List Addr → Prop
  | .d x, v, fp => fp = [] ∧ Rep G F H x v
  | .own x, v, fp => ∃ a, v = .ref a ∧ fp = [a] ∧ OwnAt G F H a x
  | .obj c fs, v, fp => ∃ a dx xs fr, v = .ref a ∧ H a = some (.ins (G.ca c) dx xs) ∧ SlRf G F H fs xs fr ∧ fp = a :: fr
termination_by structural x => x
def SlRf (G : Gs) (F : Addr → Prop) (H : Hp) : List (String × R) → List (Str × V) → List Addr → Prop
  | [], xs, fp => xs = [] ∧ fp = []
  | p :: r, xs, fp => ∃ v q f1 f2, xs = (Str.ofString p.1, v) :: q ∧ SlRp G F H p v f1 ∧ SlRf G F H r q f2 ∧ fp = f1 ++ f2
termination_by structural x => x
def SlRp (G : Gs) (F : Addr → Prop) (H : Hp) : String × R → V → List Addr → Prop
  | (_, r), v, fp => SlR G F H r v fp
termination_by structural x => x
end

theorem OwnAt.mono (hF : ∀ b, F b → F' b) (hk : ∀ b, F b → st1 (H' b) = st1 (H b)) {a : Addr} (ha : H' a = H a) : ∀ {d : D}, OwnAt G F H a d → OwnAt G F' H' a d
  | .lst ds, ⟨vs, e, r⟩ => ⟨vs, ha.trans e, r.mono hF hk⟩
  | .dic kvs, .inl ⟨ks, e, r⟩ => .inl ⟨ks, ha.trans e, r.mono hF hk⟩
  | .dic kvs, .inr ⟨ks, n, e, r⟩ => .inr ⟨ks, n, ha.trans e, r.mono hF hk⟩
mutual
theorem SlR.mono (hF : ∀ b, F b → F' b) (hk : ∀ b, F b → st1 (H' b) = st1 (H b)) : ∀ {r : R} {v : V} {fp : List Addr}, (∀ a ∈ fp, H' a = H a) → SlR G F H r v fp → SlR G F' H' r v fp
  | .d x, _, _, _, h => by
    simp only [SlR] at h ⊢
    exact ⟨h.1, h.2.mono hF hk⟩
  | .own x, _, _, ha, h => by
    simp only [SlR] at h ⊢
    obtain ⟨a, e, rfl, o⟩ := h
    exact ⟨a, e, rfl, o.mono hF hk (ha a (by simp))⟩
  | .obj c fs, _, _, ha, h => by
    simp only [SlR] at h ⊢
    obtain ⟨a, dx, xs, fr, e, o, r, rfl⟩ := h
    exact ⟨a, dx, xs, fr, e, (ha a (by simp)).trans o, SlRf.mono hF hk (fun b hb => ha b (by simp [hb])) r, rfl⟩
termination_by structural r => r
theorem SlRf.mono (hF : ∀ b, F b → F' b) (hk : ∀ b, F b → st1 (H' b) = st1 (H b)) : ∀ {r : List (String × R)} {v : List (Str × V)} {fp : List Addr}, (∀ a ∈ fp, H' a = H a) → SlRf G F H r v fp → SlRf G F' H' r v fp
  | [], _, _, _, h => by simpa only [SlRf] using h
  | p :: r, _, _, ha, h => by
    simp only [SlRf] at h ⊢
    obtain ⟨v, q, f1, f2, e, x, y, rfl⟩ := h
    exact ⟨v, q, f1, f2, e, SlRp.mono hF hk (fun b hb => ha b (by simp [hb])) x, SlRf.mono hF hk (fun b hb => ha b (by simp [hb])) y, rfl⟩
termination_by structural r => r
theorem SlRp.mono (hF : ∀ b, F b → F' b) (hk : ∀ b, F b → st1 (H' b) = st1 (H b)) : ∀ {r : String × R} {v : V} {fp : List Addr}, (∀ a ∈ fp, H' a = H a) → SlRp G F H r v fp → SlRp G F' H' r v fp
  | (_, r), _, _, ha, h => by
    simp only [SlRp] at h ⊢
    exact SlR.mono hF hk ha h
termination_by structural r => r
end

mutual
/-- what was held alone is shared from now on -/
theorem SlR.frz : ∀ {r : R} {v : V} {fp : List Addr}, (∀ b, F b → F' b) → (∀ a ∈ fp, F' a) → SlR G F H r v fp → Rep G F' H r.frz v
  | .d x, _, _, hF, _, h => by
    simp only [SlR] at h
    simp only [R.frz]
    exact h.2.mono hF fun _ _ => rfl
  | .own x, _, _, hF, ha, h => by
    simp only [SlR] at h
    obtain ⟨a, e, rfl, o⟩ := h
    have fa := ha a (by simp)
    simp only [R.frz]
    cases x with
    | lst ds =>
      obtain ⟨vs, e2, r⟩ := o
      simp only [Rep]
      exact ⟨a, vs, e, .inl ⟨fa, by rw [e2]; rfl⟩, r.mono hF fun _ _ => rfl⟩
    | dic kvs =>
      simp only [Rep]
      refine ⟨a, e, fa, ?_⟩
      rcases o with ⟨ks, e2, r⟩ | ⟨ks, _, e2, r⟩
      · exact .inl ⟨ks, by rw [e2]; rfl, r.mono hF fun _ _ => rfl⟩
      · exact .inr ⟨ks, by rw [e2]; rfl, r.mono hF fun _ _ => rfl⟩
    | _ => exact o.elim
  | .obj c fs, _, _, hF, ha, h => by
    simp only [SlR] at h
    obtain ⟨a, dx, xs, fr, e, o, r, rfl⟩ := h
    simp only [R.frz, Rep]
    exact ⟨a, dx, xs, e, ha a (by simp), o, SlRf.frz hF (fun b hb => ha b (by simp [hb])) r⟩
termination_by structural r => r
theorem SlRf.frz : ∀ {r : List (String × R)} {v : List (Str × V)} {fp : List Addr}, (∀ b, F b → F' b) → (∀ a ∈ fp, F' a) → SlRf G F H r v fp → Repf G F' H (R.frzs r) v
  | [], _, _, _, _, h => by
    simp only [SlRf] at h
    simp only [R.frzs, Repf]
    exact h.1
  | p :: r, _, _, hF, ha, h => by
    simp only [SlRf] at h
    obtain ⟨v, q, f1, f2, e, x, y, rfl⟩ := h
    simp only [R.frzs, Repf]
    refine ⟨v, q, ?_, SlRp.frz hF (fun b hb => ha b (by simp [hb])) x, SlRf.frz hF (fun b hb => ha b (by simp [hb])) y⟩
    obtain ⟨f, r'⟩ := p
    simp only [R.frzp]
    exact e
termination_by structural r => r
theorem SlRp.frz : ∀ {r : String × R} {v : V} {fp : List Addr}, (∀ b, F b → F' b) → (∀ a ∈ fp, F' a) → SlRp G F H r v fp → Repfp G F' H (R.frzp r) v
  | (_, r), _, _, hF, ha, h => by
    simp only [SlRp] at h
    simp only [R.frzp, Repfp]
    exact SlR.frz hF ha h
termination_by structural r => r
end
end
end Mini
/-! Mini, part C: states, steps, readings. -/
namespace Mini
open PySem L2

/-- what is known of the slots and of what is frozen -/
structure SP where
  p : L2.St → (Addr → Prop) → Hp → Prop
  m : ∀ {σ : L2.St} {F F' : Addr → Prop} {H H' : Hp}, (∀ b, F b → F' b) → (∀ b, F b → st1 (H' b) = st1 (H b)) → p σ F H → p σ F' H'
/-- nothing -/
def JT : SP := ⟨fun _ _ _ => True, fun _ _ _ => trivial⟩
/-- a place that something may hold alone: it is there, and no tuple -/
def Ow (H : Hp) (a : Addr) : Prop := H a ≠ none ∧ ∀ xs, H a ≠ some (.tup xs)
theorem Ow.of {H H' : Hp} {a : Addr} (h : Ow H a) (e : H' a = H a) : Ow H' a := ⟨by rw [e]; exact h.1, fun xs => by rw [e]; exact h.2 xs⟩
/-- the slots as this language tells them, over the values by slot and the heap; fp: what each slot holds alone -/
structure Sto (Js : SP) (G : Gs) (F : Addr → Prop) (ρ : Env) (σ : L2.St) (H : Hp) (fp : Nat → List Addr) : Prop where
  len : ρ.length = σ.length
  sl : ∀ i r, getI ρ i = some r → ∃ v, σ[i]? = some (some v) ∧ SlR G F H r v (fp i)
  nd : ∀ i, (fp i).Nodup
  dj : ∀ i j a, a ∈ fp i → a ∈ fp j → i = j
  out : ∀ i a, a ∈ fp i → ¬ F a ∧ Ow H a
  fr : ∀ a, F a → H a ≠ none
  j : Js.p σ F H
structure Step (F : Addr → Prop) (fp : Nat → List Addr) (H : Hp) (F' : Addr → Prop) (fp' : Nat → List Addr) (H' : Hp) : Prop where
  sub : ∀ b, F b → F' b
  keep : ∀ b o, H b = some o → (∀ i, b ∉ fp i) → H' b = some o
  new : ∀ b, F' b → F b ∨ (∃ i, b ∈ fp i) ∨ H b = none ∨ ∃ xs, H b = some (.tup xs)
  newO : ∀ i b, b ∈ fp' i → (∃ j, b ∈ fp j) ∨ H b = none
structure Tmp (F : Addr → Prop) (fp : Nat → List Addr) (H : Hp) (f : List Addr) : Prop where
  nd : f.Nodup
  dj : ∀ i a, a ∈ f → a ∉ fp i
  out : ∀ a, a ∈ f → ¬ F a ∧ Ow H a
structure Aft (Js : SP) (G : Gs) (F : Addr → Prop) (fp : Nat → List Addr) (H : Hp) (ρ' : Env) (σ : L2.St) (F' : Addr → Prop) (fp' : Nat → List Addr) (H' : Hp) (f : List Addr) : Prop where
  st : Step F fp H F' fp' H'
  sto : Sto Js G F' ρ' σ H' fp'
  tmp : Tmp F' fp' H' f
  src : ∀ a, a ∈ f → (∃ i, a ∈ fp i) ∨ H a = none

section
variable {Js : SP} {G : Gs} {F F1 F2 F3 : Addr → Prop} {fp fp1 fp2 : Nat → List Addr} {H H1 H2 : Hp} {ρ ρ1 ρ2 : Env} {σ : L2.St} {f f1 f2 : List Addr}

theorem Step.refl : Step F fp H F fp H := ⟨fun _ h => h, fun _ _ h _ => h, fun _ h => .inl h, fun i b h => .inl ⟨i, h⟩⟩
theorem Step.trans (a : Step F fp H F1 fp1 H1) (b : Step F1 fp1 H1 F2 fp2 H2) : Step F fp H F2 fp2 H2 where
  sub := fun x h => b.sub x (a.sub x h)
  keep := fun x o h n => b.keep x o (a.keep x o h n) fun i hi => by
    rcases a.newO i x hi with ⟨j, hj⟩ | z
    · exact n j hj
    · rw [h] at z; cases z
  new := fun x h => by
    have fin : (H1 x = none ∨ ∃ xs, H1 x = some (.tup xs)) → (F x ∨ (∃ i, x ∈ fp i) ∨ H x = none ∨ ∃ xs, H x = some (.tup xs)) := fun z => by
      by_cases hx : ∃ i, x ∈ fp i
      · exact .inr (.inl hx)
      · cases e : H x with
        | none => exact .inr (.inr (.inl rfl))
        | some o =>
          rw [a.keep x o e fun i hi => hx ⟨i, hi⟩] at z
          rcases z with z | ⟨xs, z⟩
          · cases z
          · exact .inr (.inr (.inr ⟨xs, z⟩))
    rcases b.new x h with h | ⟨i, h⟩ | h
    · exact a.new x h
    · exact (a.newO i x h).elim (fun q => .inr (.inl q)) fun q => .inr (.inr (.inl q))
    · exact fin h
  newO := fun i x h => by
    rcases b.newO i x h with ⟨j, h⟩ | h
    · exact a.newO j x h
    · by_cases hx : ∃ i, x ∈ fp i
      · exact .inl hx
      · cases e : H x with
        | none => exact .inr rfl
        | some o => rw [a.keep x o e fun i hi => hx ⟨i, hi⟩] at h; cases h

/-- what a temporary value holds stays through a step of the slots -/
theorem Step.tmpSt1 (a : Step F fp H F1 fp1 H1) (t : Tmp F fp H f) : ∀ b, b ∈ f → H1 b = H b := fun b hb => by
  cases e : H b with
  | none => exact absurd e (t.out b hb).2.1
  | some o => exact a.keep b o e fun i hi => t.dj i b hb hi
theorem Step.frSt1 (s : Sto Js G F ρ σ H fp) (a : Step F fp H F1 fp1 H1) : ∀ b, F b → st1 (H1 b) = st1 (H b) := fun b hb => by
  cases e : H b with
  | none => exact absurd e (s.fr b hb)
  | some o => rw [a.keep b o e fun i hi => (s.out i b hi).1 hb]
theorem Step.slr (s : Sto Js G F ρ σ H fp) (a : Step F fp H F1 fp1 H1) (t : Tmp F fp H f) {r : R} {v : V} (h : SlR G F H r v f) : SlR G F1 H1 r v f :=
  h.mono a.sub (a.frSt1 s) (a.tmpSt1 t)
theorem Step.rep (s : Sto Js G F ρ σ H fp) (a : Step F fp H F1 fp1 H1) {d : D} {v : V} (h : Rep G F H d v) : Rep G F1 H1 d v := h.mono a.sub (a.frSt1 s)
theorem Step.reps (s : Sto Js G F ρ σ H fp) (a : Step F fp H F1 fp1 H1) {d : List D} {v : List V} (h : Reps G F H d v) : Reps G F1 H1 d v := h.mono a.sub (a.frSt1 s)
theorem Step.tmp (a : Step F fp H F1 fp1 H1) (t : Tmp F fp H f) : Tmp F1 fp1 H1 f where
  nd := t.nd
  dj := fun i b hb hi => by
    rcases a.newO i b hi with ⟨j, hj⟩ | z
    · exact t.dj j b hb hj
    · exact (t.out b hb).2.1 z
  out := fun b hb => ⟨fun h => by
    rcases a.new b h with h | ⟨i, h⟩ | h | ⟨xs, h⟩
    · exact (t.out b hb).1 h
    · exact t.dj i b hb h
    · exact (t.out b hb).2.1 h
    · exact (t.out b hb).2.2 xs h, (t.out b hb).2.of (a.tmpSt1 t b hb)⟩
theorem Tmp.nil : Tmp F fp H [] := ⟨.nil, fun _ _ h => by simp at h, fun _ h => by simp at h⟩
theorem Tmp.app (t1 : Tmp F fp H f1) (t2 : Tmp F fp H f2) (d : ∀ a, a ∈ f1 → a ∉ f2) : Tmp F fp H (f1 ++ f2) where
  nd := List.nodup_append.mpr ⟨t1.nd, t2.nd, fun a ha b hb e => d a ha (e ▸ hb)⟩
  dj := fun i a h => (List.mem_append.mp h).elim (t1.dj i a) (t2.dj i a)
  out := fun a h => (List.mem_append.mp h).elim (t1.out a) (t2.out a)

theorem Aft.refl (s : Sto Js G F ρ σ H fp) : Aft Js G F fp H ρ σ F fp H [] := ⟨.refl, s, .nil, fun _ h => by simp at h⟩
/-- behind one another: the first value is dropped -/
theorem Aft.trans {J1 : SP} {σ1 : L2.St} (a : Aft J1 G F fp H ρ1 σ1 F1 fp1 H1 f1) (b : Aft Js G F1 fp1 H1 ρ2 σ F2 fp2 H2 f2) : Aft Js G F fp H ρ2 σ F2 fp2 H2 f2 where
  st := a.st.trans b.st
  sto := b.sto
  tmp := b.tmp
  src := fun x h => by
    rcases b.src x h with ⟨i, h⟩ | h
    · exact a.st.newO i x h
    · by_cases hx : ∃ i, x ∈ fp i
      · exact .inl hx
      · cases e : H x with
        | none => exact .inr rfl
        | some o => rw [a.st.keep x o e fun i hi => hx ⟨i, hi⟩] at h; cases h
/-- .. and kept -/
theorem Aft.trans2 (a : Aft Js G F fp H ρ1 σ F1 fp1 H1 f1) (b : Aft Js G F1 fp1 H1 ρ2 σ F2 fp2 H2 f2) : Aft Js G F fp H ρ2 σ F2 fp2 H2 (f1 ++ f2) where
  st := a.st.trans b.st
  sto := b.sto
  tmp := (b.st.tmp a.tmp).app b.tmp fun x h1 h2 => by
    rcases b.src x h2 with ⟨i, h⟩ | h
    · exact a.tmp.dj i x h1 h
    · exact (a.tmp.out x h1).2.1 h
  src := fun x h => (List.mem_append.mp h).elim (a.src x) ((a.trans b).src x)
/-- a temporary value is shared -/
theorem Aft.frz (a : Aft Js G F fp H ρ1 σ F1 fp1 H1 f1) : Aft Js G F fp H ρ1 σ (fun b => F1 b ∨ b ∈ f1) fp1 H1 [] where
  st := ⟨fun b h => .inl (a.st.sub b h), a.st.keep, fun b h => h.elim (a.st.new b) fun h => (a.src b h).elim (fun q => .inr (.inl q)) fun q => .inr (.inr (.inl q)), a.st.newO⟩
  sto := ⟨a.sto.len, fun i r h => by
      obtain ⟨v, e, q⟩ := a.sto.sl i r h
      exact ⟨v, e, q.mono (fun _ h => .inl h) (fun _ _ => rfl) fun _ _ => rfl⟩, a.sto.nd, a.sto.dj,
    fun i b h => ⟨fun z => z.elim (a.sto.out i b h).1 fun z => a.tmp.dj i b z h, (a.sto.out i b h).2⟩,
    fun b h => h.elim (a.sto.fr b) fun h => (a.tmp.out b h).2.1, Js.m (fun _ h => .inl h) (fun _ _ => rfl) a.sto.j⟩
  tmp := .nil
  src := fun _ h => by simp at h
theorem Aft.frzRep (a : Aft Js G F fp H ρ1 σ F1 fp1 H1 f1) {r : R} {v : V} (h : SlR G F1 H1 r v f1) : Rep G (fun b => F1 b ∨ b ∈ f1) H1 r.frz v :=
  h.frz (fun _ h => .inl h) fun _ h => .inr h
theorem Aft.drop (a : Aft Js G F fp H ρ1 σ F1 fp1 H1 f1) : Aft Js G F fp H ρ1 σ F1 fp1 H1 [] := ⟨a.st, a.sto, .nil, fun _ h => by simp at h⟩

/-- a new object, shared -/
theorem Aft.newF (a : Aft Js G F fp H ρ1 σ F1 fp1 H1 []) {p : Addr} {o : HO} (hp : H1 p = none) : Aft Js G F fp H ρ1 σ (fun b => F1 b ∨ b = p) fp1 (upd H1 p o) [] where
  st := ⟨fun b h => .inl (a.st.sub b h), fun b u h n => by rw [upd_ne (ne_of_none (a.st.keep b u h n) hp)]; exact a.st.keep b u h n,
    fun b h => h.elim (a.st.new b) (fun h => by
      subst h
      by_cases hx : ∃ i, b ∈ fp i
      · exact .inr (.inl hx)
      · cases e : H b with
        | none => exact .inr (.inr (.inl rfl))
        | some o => (rw [a.st.keep b o e fun i hi => hx ⟨i, hi⟩] at hp; cases hp)), a.st.newO⟩
  sto := by
    have ne : ∀ i b, b ∈ fp1 i → b ≠ p := fun i b h e => by subst e; exact (a.sto.out i b h).2.1 hp
    have ne2 : ∀ b, F1 b → b ≠ p := fun b h e => by subst e; exact a.sto.fr b h hp
    refine ⟨a.sto.len, fun i r h => ?_, a.sto.nd, a.sto.dj, fun i b h => ⟨fun z => z.elim (a.sto.out i b h).1 (ne i b h), (a.sto.out i b h).2.of (upd_ne (ne i b h))⟩, fun b h => ?_, Js.m (fun _ h => .inl h) (fun b h => by rw [upd_ne (ne2 b h)]) a.sto.j⟩
    · obtain ⟨v, e, q⟩ := a.sto.sl i r h
      exact ⟨v, e, q.mono (fun _ h => .inl h) (fun b h => by rw [upd_ne (ne2 b h)]) fun b h => upd_ne (ne i b h)⟩
    · rcases h with h | h
      · rw [upd_ne (ne2 b h)]; exact a.sto.fr b h
      · subst h; rw [upd_same]; simp
  tmp := .nil
  src := fun _ h => by simp at h
/-- a new object, own -/
theorem Aft.newO (a : Aft Js G F fp H ρ1 σ F1 fp1 H1 []) {p : Addr} {o : HO} (hp : H1 p = none) (ho : ∀ xs, o ≠ .tup xs) : Aft Js G F fp H ρ1 σ F1 fp1 (upd H1 p o) [p] where
  st := ⟨a.st.sub, fun b u h n => by rw [upd_ne (ne_of_none (a.st.keep b u h n) hp)]; exact a.st.keep b u h n, a.st.new, a.st.newO⟩
  sto := by
    have ne : ∀ i b, b ∈ fp1 i → b ≠ p := fun i b h e => by subst e; exact (a.sto.out i b h).2.1 hp
    have ne2 : ∀ b, F1 b → b ≠ p := fun b h e => by subst e; exact a.sto.fr b h hp
    refine ⟨a.sto.len, fun i r h => ?_, a.sto.nd, a.sto.dj, fun i b h => ⟨(a.sto.out i b h).1, (a.sto.out i b h).2.of (upd_ne (ne i b h))⟩, fun b h => by rw [upd_ne (ne2 b h)]; exact a.sto.fr b h, Js.m (fun _ h => h) (fun b h => by rw [upd_ne (ne2 b h)]) a.sto.j⟩
    obtain ⟨v, e, q⟩ := a.sto.sl i r h
    exact ⟨v, e, q.mono (fun _ h => h) (fun b h => by rw [upd_ne (ne2 b h)]) fun b h => upd_ne (ne i b h)⟩
  tmp := ⟨by simp, fun i b h q => by
      have e : b = p := by simpa using h
      subst e; exact (a.sto.out i b q).2.1 hp, fun b h => by
      have e : b = p := by simpa using h
      subst e
      exact ⟨fun z => a.sto.fr b z hp, by rw [upd_same]; simp, fun xs => by rw [upd_same]; exact fun z => ho xs (Option.some.inj z)⟩⟩
  src := fun b h => by
    have e : b = p := by simpa using h
    subst e
    by_cases hx : ∃ i, b ∈ fp i
    · exact .inl hx
    · cases e : H b with
      | none => exact .inr rfl
      | some o => rw [a.st.keep b o e fun i hi => hx ⟨i, hi⟩] at hp; cases hp

/-- one slot's part emptied -/
def fpSet (fp : Nat → List Addr) (i : Nat) (f : List Addr) : Nat → List Addr := fun j => if j = i then f else fp j
theorem fpSet_same {i : Nat} : fpSet fp i f i = f := if_pos rfl
theorem fpSet_ne {i j : Nat} (h : j ≠ i) : fpSet fp i f j = fp j := if_neg h
theorem mem_fpSet_nil {i j : Nat} {a : Addr} (h : a ∈ fpSet fp i [] j) : j ≠ i ∧ a ∈ fp j := by
  by_cases e : j = i
  · subst e; rw [fpSet_same] at h; simp at h
  · rw [fpSet_ne e] at h; exact ⟨e, h⟩
theorem getI_set_ne {i j : Nat} {o : Option R} (h : j ≠ i) : getI (ρ.set i o) j = getI ρ j := by
  unfold getI
  rw [List.getElem?_set_ne (Ne.symm h)]
theorem getI_set_same {i : Nat} {r : R} (h : i < ρ.length) : getI (ρ.set i (some r)) i = some r := by
  unfold getI
  rw [List.getElem?_set_self h]
theorem getI_set_none {i : Nat} : getI (ρ.set i none) i = none := by
  unfold getI
  by_cases h : i < ρ.length
  · rw [List.getElem?_set_self h]
  · rw [List.getElem?_eq_none (by simpa using h)]
theorem getI_lt {i : Nat} {r : R} (h : getI ρ i = some r) : i < ρ.length := by
  unfold getI at h
  cases e : ρ[i]? with
  | none => rw [e] at h; cases h
  | some o => exact (List.getElem?_eq_some_iff.mp e).1

/-- a slot's value is shared -/
theorem Sto.share (s : Sto Js G F ρ σ H fp) {i : Nat} {r : R} (hr : getI ρ i = some r) :
    ∃ v, σ[i]? = some (some v) ∧ Rep G (fun b => F b ∨ b ∈ fp i) H r.frz v ∧ Aft Js G F fp H (ρ.set i (some (.d r.frz))) σ (fun b => F b ∨ b ∈ fp i) (fpSet fp i []) H [] := by
  obtain ⟨v, e, q⟩ := s.sl i r hr
  have hrep : Rep G (fun b => F b ∨ b ∈ fp i) H r.frz v := q.frz (fun _ h => .inl h) fun _ h => .inr h
  refine ⟨v, e, hrep, ⟨⟨fun _ h => .inl h, fun _ _ h _ => h, fun b h => h.elim .inl fun h => .inr (.inl ⟨i, h⟩), fun j b h => .inl ⟨j, (mem_fpSet_nil h).2⟩⟩, ⟨by simpa using s.len, fun j q' hj => ?_, fun j => ?_, fun j k a h1 h2 => ?_, fun j a h => ?_, fun a h => ?_, Js.m (fun _ h => .inl h) (fun _ _ => rfl) s.j⟩, .nil, fun _ h => by simp at h⟩⟩
  · by_cases ej : j = i
    · subst ej
      rw [getI_set_same (getI_lt hr)] at hj
      cases hj
      refine ⟨v, e, ?_⟩
      rw [fpSet_same]
      simp only [SlR]
      exact ⟨trivial, hrep⟩
    · rw [getI_set_ne ej] at hj
      obtain ⟨u, e2, q2⟩ := s.sl j q' hj
      exact ⟨u, e2, by rw [fpSet_ne ej]; exact q2.mono (fun _ h => .inl h) (fun _ _ => rfl) fun _ _ => rfl⟩
  · by_cases ej : j = i
    · subst ej; rw [fpSet_same]; exact .nil
    · rw [fpSet_ne ej]; exact s.nd j
  · exact s.dj j k a (mem_fpSet_nil h1).2 (mem_fpSet_nil h2).2
  · obtain ⟨ne, h⟩ := mem_fpSet_nil h
    exact ⟨fun z => z.elim (s.out j a h).1 fun z => ne (s.dj j i a h z), (s.out j a h).2⟩
  · exact h.elim (s.fr a) fun h => (s.out i a h).2.1
/-- a slot's value is handed on -/
theorem Sto.move (s : Sto Js G F ρ σ H fp) {i : Nat} {r : R} (hr : getI ρ i = some r) :
    ∃ v, σ[i]? = some (some v) ∧ SlR G F H r v (fp i) ∧ Aft Js G F fp H (ρ.set i none) σ F (fpSet fp i []) H (fp i) := by
  obtain ⟨v, e, q⟩ := s.sl i r hr
  refine ⟨v, e, q, ⟨⟨fun _ h => h, fun _ _ h _ => h, fun b h => .inl h, fun j b h => .inl ⟨j, (mem_fpSet_nil h).2⟩⟩, ⟨by simpa using s.len, fun j q' hj => ?_, fun j => ?_, fun j k a h1 h2 => ?_, fun j a h => s.out j a (mem_fpSet_nil h).2, s.fr, s.j⟩, ⟨s.nd i, fun j a h1 h2 => ?_, fun a h => s.out i a h⟩, fun a h => .inl ⟨i, h⟩⟩⟩
  · by_cases ej : j = i
    · subst ej
      rw [getI_set_none] at hj
      cases hj
    · rw [getI_set_ne ej] at hj
      obtain ⟨u, e2, q2⟩ := s.sl j q' hj
      exact ⟨u, e2, by rw [fpSet_ne ej]; exact q2⟩
  · by_cases ej : j = i
    · subst ej; rw [fpSet_same]; exact .nil
    · rw [fpSet_ne ej]; exact s.nd j
  · exact s.dj j k a (mem_fpSet_nil h1).2 (mem_fpSet_nil h2).2
  · obtain ⟨ne, h2⟩ := mem_fpSet_nil h2
    exact ne (s.dj j i a h2 h1)
/-- a temporary value is stored; what the slot held is dropped -/
theorem Aft.store (a : Aft Js G F fp H ρ1 σ F1 fp1 H1 f1) {i : Nat} {r : R} {v : V} (h : SlR G F1 H1 r v f1) (hi : i < ρ1.length) (hj : Js.p (σ.set i (some v)) F1 H1) :
    Aft Js G F fp H (ρ1.set i (some r)) (σ.set i (some v)) F1 (fpSet fp1 i f1) H1 [] := by
  have mem : ∀ j x, x ∈ fpSet fp1 i f1 j → (j = i ∧ x ∈ f1) ∨ (j ≠ i ∧ x ∈ fp1 j) := fun j x hx => by
    by_cases e : j = i
    · subst e; rw [fpSet_same] at hx; exact .inl ⟨rfl, hx⟩
    · rw [fpSet_ne e] at hx; exact .inr ⟨e, hx⟩
  have hiσ : i < σ.length := by rw [← a.sto.len]; exact hi
  refine ⟨⟨a.st.sub, a.st.keep, a.st.new, fun j b hb => ?_⟩, ⟨by simpa using a.sto.len, fun j q hj => ?_, fun j => ?_, fun j k x h1 h2 => ?_, fun j x hx => ?_, a.sto.fr, hj⟩, .nil, fun _ h => by simp at h⟩
  · rcases mem j b hb with ⟨_, hb⟩ | ⟨_, hb⟩
    · exact a.src b hb
    · exact a.st.newO j b hb
  · by_cases ej : j = i
    · subst ej
      rw [getI_set_same hi] at hj
      cases hj
      exact ⟨v, List.getElem?_set_self hiσ, by rw [fpSet_same]; exact h⟩
    · rw [getI_set_ne ej] at hj
      obtain ⟨u, e2, q2⟩ := a.sto.sl j q hj
      exact ⟨u, by rw [List.getElem?_set_ne (Ne.symm ej)]; exact e2, by rw [fpSet_ne ej]; exact q2⟩
  · by_cases ej : j = i
    · subst ej; rw [fpSet_same]; exact a.tmp.nd
    · rw [fpSet_ne ej]; exact a.sto.nd j
  · rcases mem j x h1 with ⟨e1, h1⟩ | ⟨e1, h1⟩ <;> rcases mem k x h2 with ⟨e2, h2⟩ | ⟨e2, h2⟩
    · rw [e1, e2]
    · exact absurd h2 (a.tmp.dj k x h1)
    · exact absurd h1 (a.tmp.dj j x h2)
    · exact a.sto.dj j k x h1 h2
  · rcases mem j x hx with ⟨_, hx⟩ | ⟨_, hx⟩
    · exact a.tmp.out x hx
    · exact a.sto.out j x hx
end

/-- an exception as the heap has it -/
def XRel (G : Gs) (F : Addr → Prop) (H : Hp) (x : Xn) (cls : Value) (d : Option Addr) : Prop :=
  cls = .ref (G.ca x.c) ∧ ((x.fs = [] ∧ d = none) ∨ (x.fs ≠ [] ∧ ∃ dd xs, d = some dd ∧ F dd ∧ H dd = some (.xd xs) ∧ Repf G F H x.fs xs))

/-- how a run ends, told by the language: relation Rl between its value and what the machine has -/
def Post {α β : Type} (Js : SP) (G : Gs) (W : WX) (Rl : L2.St → α → Env → β → (Addr → Prop) → Hp → List Addr → Prop) (F : Addr → Prop) (fp : Nat → List Addr) (H : Hp) (σ : L2.St) (res : Rs α × Env) (Q : β → Hp → Prop) : Prop :=
  match res with
  | (.ok a, ρ') => ∀ F' fp' H' v f, Aft Js G F fp H ρ' σ F' fp' H' f → Rl σ a ρ' v F' H' f → Q v H'
  | (.ex x, ρ') => ∀ F' fp' H' cls d, Aft Js G F fp H ρ' σ F' fp' H' [] → XRel G F' H' x cls d → W cls d σ H'
/-- a reading by the language -/
def tM {α β : Type} (Js : SP) (G : Gs) (W : WX) (Rl : L2.St → α → Env → β → (Addr → Prop) → Hp → List Addr → Prop) (m : M α) : L2.St → Hp → (β → Hp → Prop) → Prop := fun σ H Q =>
  ∃ F ρ fp res, Sto Js G F ρ σ H fp ∧ m ρ = some res ∧ Post Js G W Rl F fp H σ res Q
/-- a value -/
def RlV (G : Gs) : L2.St → R → Env → V → (Addr → Prop) → Hp → List Addr → Prop := fun _ r _ v F H f => SlR G F H r v f
abbrev tE (Js : SP) (G : Gs) (W : WX) (m : M R) : TE := tM Js G W (RlV G) m
/-- a test -/
def RlB : L2.St → Bool → Env → Bool → (Addr → Prop) → Hp → List Addr → Prop := fun _ b _ c _ _ f => f = [] ∧ b = c
abbrev tT (Js : SP) (G : Gs) (W : WX) (m : M Bool) : TT := tM Js G W RlB m

theorem PE.weak {X : Cx} {e : Expr} {t t' : TE} (h : PE X e t) (w : ∀ σ H Q, t' σ H Q → t σ H Q) : PE X e t' := ⟨fun pins s σ H Q I q => h.run pins s σ H Q I (w σ H Q q)⟩
theorem PT.weak {X : Cx} {e : Expr} {t t' : TT} (h : PT X e t) (w : ∀ σ H Q, t' σ H Q → t σ H Q) : PT X e t' := ⟨fun pins s σ H Q I q => h.run pins s σ H Q I (w σ H Q q)⟩
theorem PA.weak {X : Cx} {e : List Expr} {t t' : TA} (h : PA X e t) (w : ∀ σ H Q, t' σ H Q → t σ H Q) : PA X e t' := ⟨fun pos pins s σ H Q I q => h.run pos pins s σ H Q I (w σ H Q q)⟩
theorem PS.weak {X : Cx} {e : Stmt} {t t' : TS} (h : PS X e t) (w : ∀ D σ H, t' D σ H → t D σ H) : PS X e t' := ⟨fun pins s σ H Q I q => h.run pins s σ H Q I (w Q σ H q)⟩
theorem PSs.weak {X : Cx} {e : List Stmt} {t t' : TS} (h : PSs X e t) (w : ∀ D σ H, t' D σ H → t D σ H) : PSs X e t' := ⟨fun pins s σ H Q I q => h.run pins s σ H Q I (w Q σ H q)⟩

section
variable {Js : SP} {G : Gs} {W : WX} {σ : L2.St} {H : Hp} {α β α' β' : Type} {Rl : L2.St → α → Env → β → (Addr → Prop) → Hp → List Addr → Prop} {Rl' : L2.St → α' → Env → β' → (Addr → Prop) → Hp → List Addr → Prop}
/-- m, then k -/
theorem tM.bind {m : M α} {k : α → M α'} {Q : β' → Hp → Prop} {K : β → Hp → Prop} (h : tM Js G W Rl' (M.bind m k) σ H Q)
    (hk : ∀ F ρ fp a ρ1 F1 fp1 H1 v f res, Sto Js G F ρ σ H fp → m ρ = some (.ok a, ρ1) → Aft Js G F fp H ρ1 σ F1 fp1 H1 f → Rl σ a ρ1 v F1 H1 f → k a ρ1 = some res → Post Js G W Rl' F fp H σ res Q → K v H1) :
    tM Js G W Rl m σ H K := by
  obtain ⟨F, ρ, fp, res, s, e, p⟩ := h
  unfold M.bind at e
  cases em : m ρ with
  | none => rw [em] at e; cases e
  | some q =>
    obtain ⟨r, ρ1⟩ := q
    rw [em] at e
    cases r with
    | ok a => exact ⟨F, ρ, fp, _, s, em, fun F1 fp1 H1 v f af rl => hk F ρ fp a ρ1 F1 fp1 H1 v f res s em af rl e p⟩
    | ex x =>
      simp only [Option.some.injEq] at e
      subst e
      exact ⟨F, ρ, fp, _, s, em, p⟩
/-- from behind a part: the rest as a reading of its own -/
theorem Post.rest {F F1 : Addr → Prop} {fp fp1 : Nat → List Addr} {H1 : Hp} {ρ1 : Env} {f : List Addr} {res : Rs α × Env} {Q : β → Hp → Prop} (p : Post Js G W Rl F fp H σ res Q) (a : Aft Js G F fp H ρ1 σ F1 fp1 H1 f) : Post Js G W Rl F1 fp1 H1 σ res Q := by
  obtain ⟨r, ρ'⟩ := res
  cases r with
  | ok x => exact fun F' fp' H' v f' af rl => p F' fp' H' v f' (a.trans af) rl
  | ex x => exact fun F' fp' H' cls d af rl => p F' fp' H' cls d (a.trans af) rl
/-- what is asked where it ends by an exception -/
def Exc {α : Type} (Js : SP) (G : Gs) (W : WX) (F : Addr → Prop) (fp : Nat → List Addr) (H : Hp) (σ : L2.St) (res : Rs α × Env) : Prop :=
  ∀ x ρ', res = (.ex x, ρ') → ∀ F' fp' H' cls d, Aft Js G F fp H ρ' σ F' fp' H' [] → XRel G F' H' x cls d → W cls d σ H'
theorem Post.exc {F F1 : Addr → Prop} {fp fp1 : Nat → List Addr} {H H1 : Hp} {ρ1 : Env} {f : List Addr} {res : Rs α × Env} {Q : β → Hp → Prop} (p : Post Js G W Rl F fp H σ res Q) (a : Aft Js G F fp H ρ1 σ F1 fp1 H1 f) : Exc Js G W F1 fp1 H1 σ res :=
  fun x ρ' e F' fp' H' cls d af rl => by
    subst e
    exact p F' fp' H' cls d (a.trans af) rl
theorem Post.exc0 {F : Addr → Prop} {fp : Nat → List Addr} {H : Hp} {res : Rs α × Env} {Q : β → Hp → Prop} (p : Post Js G W Rl F fp H σ res Q) : Exc Js G W F fp H σ res :=
  fun x ρ' e F' fp' H' cls d af rl => by
    subst e
    exact p F' fp' H' cls d af rl
theorem Exc.rest {F F1 : Addr → Prop} {fp fp1 : Nat → List Addr} {H H1 : Hp} {ρ1 : Env} {f : List Addr} {res : Rs α × Env} (p : Exc Js G W F fp H σ res) (a : Aft Js G F fp H ρ1 σ F1 fp1 H1 f) : Exc Js G W F1 fp1 H1 σ res :=
  fun x ρ' e F' fp' H' cls d af rl => p x ρ' e F' fp' H' cls d (a.trans af) rl
/-- m, then k: the state told -/
theorem bindO {F : Addr → Prop} {fp : Nat → List Addr} {ρ : Env} {m : M α} {k : α → M α'} {res : Rs α' × Env} {K : β → Hp → Prop} (s : Sto Js G F ρ σ H fp) (e : M.bind m k ρ = some res) (x : Exc Js G W F fp H σ res)
    (hk : ∀ a ρ1, m ρ = some (.ok a, ρ1) → k a ρ1 = some res → ∀ F1 fp1 H1 v f, Aft Js G F fp H ρ1 σ F1 fp1 H1 f → Rl σ a ρ1 v F1 H1 f → K v H1) : tM Js G W Rl m σ H K := by
  unfold M.bind at e
  cases em : m ρ with
  | none => rw [em] at e; cases e
  | some q =>
    obtain ⟨r, ρ1⟩ := q
    rw [em] at e
    cases r with
    | ok a => exact ⟨F, ρ, fp, _, s, em, fun F1 fp1 H1 v f af rl => hk a ρ1 em e F1 fp1 H1 v f af rl⟩
    | ex y =>
      simp only [Option.some.injEq] at e
      subst e
      exact ⟨F, ρ, fp, _, s, em, fun F1 fp1 H1 cls d af rl => x y ρ1 rfl F1 fp1 H1 cls d af rl⟩
theorem tM.of {m : M α} {F : Addr → Prop} {fp : Nat → List Addr} {ρ : Env} {res : Rs α × Env} {Q : β → Hp → Prop} (s : Sto Js G F ρ σ H fp) (e : m ρ = some res) (p : Post Js G W Rl F fp H σ res Q) : tM Js G W Rl m σ H Q := ⟨F, ρ, fp, res, s, e, p⟩
end

/-! ### names, constants -/
section
variable {X : Cx} {Js : SP} {G : Gs} {W : WX}
theorem bw_var {i : Nat} {x : Str} {pos : Pos} (hN : X.N[i]? = some x) (hv : Vis X.env.scope x) (hd : (x == ("__debug__" : Str)) = false) (hcd : (x == ("__classdict__" : Str)) = false) :
    PE X (.Name x pos) (tE Js G W (shareL i [])) := by
  refine PE.weak (pe_var hN hv hd hcd) fun σ H Q h => ?_
  obtain ⟨F, ρ, fp, res, s, e, p⟩ := h
  unfold shareL getL at e
  cases hr : getI ρ i with
  | none => rw [hr] at e; cases e
  | some r =>
    simp only [hr, getP] at e
    have main : res = (.ok (.d r.frz), ρ.set i (some (.d r.frz))) → ∃ v, σ[i]? = some (some v) ∧ Q v H := fun er => by
      obtain ⟨v, e2, rp, af⟩ := s.share hr
      refine ⟨v, e2, ?_⟩
      subst er
      exact p _ _ H v [] af (by simp only [RlV, SlR]; exact ⟨trivial, rp⟩)
    have put : putL ρ i [] (.d r.frz) = some (ρ.set i (some (.d r.frz))) := by unfold putL; simp only [hr, putP]
    cases r with
    | d x =>
      simp only [Option.some.injEq] at e
      subst e
      obtain ⟨v, e2, q⟩ := s.sl i _ hr
      simp only [SlR] at q
      exact ⟨v, e2, p F fp H v [] (.refl s) (by simp only [RlV, SlR]; exact ⟨trivial, q.2⟩)⟩
    | own x =>
      dsimp only at e
      rw [put] at e
      simp only [Option.some.injEq] at e
      exact main e.symm
    | obj c fs =>
      dsimp only at e
      rw [put] at e
      simp only [Option.some.injEq] at e
      exact main e.symm
theorem bw_mov {i : Nat} {x : Str} {pos : Pos} (hN : X.N[i]? = some x) (hv : Vis X.env.scope x) (hd : (x == ("__debug__" : Str)) = false) (hcd : (x == ("__classdict__" : Str)) = false) :
    PE X (.Name x pos) (tE Js G W (moveI i)) := by
  refine PE.weak (pe_var hN hv hd hcd) fun σ H Q h => ?_
  obtain ⟨F, ρ, fp, res, s, e, p⟩ := h
  unfold moveI at e
  cases hr : getI ρ i with
  | none => rw [hr] at e; cases e
  | some r =>
    rw [hr] at e
    have main : res = (.ok r, ρ.set i none) → ∃ v, σ[i]? = some (some v) ∧ Q v H := fun er => by
      obtain ⟨v, e2, q, af⟩ := s.move hr
      subst er
      exact ⟨v, e2, p _ _ H v _ af q⟩
    simp only [Option.some.injEq] at e
    exact main e.symm
theorem tM.pure_of {α β : Type} {Rl : L2.St → α → Env → β → (Addr → Prop) → Hp → List Addr → Prop} {a : α} {v : β} {σ : L2.St} {H : Hp} {Q : β → Hp → Prop} (h : tM Js G W Rl (M.pure a) σ H Q) (r : ∀ ρ F, Rl σ a ρ v F H []) : Q v H := by
  obtain ⟨F, ρ, fp, res, s, e, p⟩ := h
  unfold M.pure at e
  simp only [Option.some.injEq] at e
  subst e
  exact p F fp H v [] (.refl s) (r _ _)
theorem bw_int {i : Int} {j : Nat} {pos : Pos} : PE X (.Constant (.int i) j pos) (tE Js G W (M.pure (.d (.int i)))) :=
  PE.weak pe_int fun _ _ _ h => tM.pure_of h fun _ _ => by simp only [RlV, SlR, Rep]; exact ⟨trivial, trivial⟩
theorem bw_bl {i : Bool} {j : Nat} {pos : Pos} : PE X (.Constant (.bool i) j pos) (tE Js G W (M.pure (.d (.bl i)))) :=
  PE.weak pe_bl fun _ _ _ h => tM.pure_of h fun _ _ => by simp only [RlV, SlR, Rep]; exact ⟨trivial, trivial⟩
theorem bw_non {j : Nat} {pos : Pos} : PE X (.Constant .none j pos) (tE Js G W (M.pure (.d .non))) :=
  PE.weak pe_non fun _ _ _ h => tM.pure_of h fun _ _ => by simp only [RlV, SlR, Rep]; exact ⟨trivial, trivial⟩
theorem bw_str {x : Str} {s : Cs} (e : x = toS s) {j : Nat} {pos : Pos} : PE X (.Constant (.str x) j pos) (tE Js G W (M.pure (.d (.str s)))) :=
  PE.weak pe_str fun _ _ _ h => tM.pure_of h fun _ _ => by simp only [RlV, SlR, Rep]; exact ⟨trivial, by rw [e]⟩
end
end Mini
/-! Mini, part D: arguments, displays, tests, calls. -/
namespace Mini
open PySem L2

theorem sizeMax_le : sizeMax ≤ sizeLine := by rw [sizeLine_eq]; decide
theorem M.bind_assoc {α β γ : Type} (m : M α) (k : α → M β) (l : β → M γ) : M.bind (M.bind m k) l = M.bind m fun a => M.bind (k a) l := by
  funext e
  unfold M.bind
  cases m e with
  | none => rfl
  | some p =>
    obtain ⟨r, e'⟩ := p
    cases r <;> rfl
theorem M.pure_bind {α β : Type} (a : α) (k : α → M β) : M.bind (M.pure a) k = k a := rfl

section
variable {Js : SP} {G : Gs} {F F' : Addr → Prop} {H H' : Hp}
theorem Reps.length : ∀ {ds : List D} {vs : List V}, Reps G F H ds vs → ds.length = vs.length
  | [], _, h => by simp only [Reps] at h; subst h; rfl
  | d :: r, _, h => by
    simp only [Reps] at h
    obtain ⟨v, q, rfl, _, y⟩ := h
    simp [Reps.length y]
theorem Reps.nil : Reps G F H [] [] := by simp [Reps]
theorem Reps.cons {d : D} {v : V} {ds : List D} {vs : List V} (h : Rep G F H d v) (q : Reps G F H ds vs) : Reps G F H (d :: ds) (v :: vs) := by
  simp only [Reps]; exact ⟨v, vs, rfl, h, q⟩
theorem Reps.app : ∀ {ds es : List D} {vs ws : List V}, Reps G F H ds vs → Reps G F H es ws → Reps G F H (ds ++ es) (vs ++ ws)
  | [], _, _, _, h, q => by simp only [Reps] at h; subst h; exact q
  | d :: r, _, _, _, h, q => by
    simp only [Reps] at h
    obtain ⟨v, p, rfl, x, y⟩ := h
    exact .cons x (y.app q)
theorem Reps.one {d : D} {v : V} (h : Rep G F H d v) : Reps G F H [d] [v] := .cons h .nil
theorem Reps.get : ∀ {ds : List D} {vs : List V} {i : Nat} {d : D}, Reps G F H ds vs → ds[i]? = some d → ∃ v, vs[i]? = some v ∧ Rep G F H d v
  | [], _, _, _, _, e => by simp at e
  | x :: r, _, 0, d, h, e => by
    simp only [Reps] at h
    obtain ⟨v, q, rfl, p, y⟩ := h
    simp at e
    subst e
    exact ⟨v, by simp, p⟩
  | x :: r, _, i + 1, d, h, e => by
    simp only [Reps] at h
    obtain ⟨v, q, rfl, p, y⟩ := h
    obtain ⟨u, h1, h2⟩ := y.get (i := i) (d := d) (by simpa using e)
    exact ⟨u, by simpa using h1, h2⟩
end

/-! ### arguments -/
def RlA (G : Gs) : L2.St → Arg → Env → V → (Addr → Prop) → Hp → List Addr → Prop := fun σ a _ v F H f =>
  match a with
  | .r x => SlR G F H x v f
  | .p i fs => fs = [] ∧ f = [] ∧ σ[i]? = some (some v)
def RlAs (G : Gs) : L2.St → List Arg → Env → List V → (Addr → Prop) → Hp → List Addr → Prop
  | _, [], _, vs, _, _, f => vs = [] ∧ f = []
  | σ, a :: as, ρ, vs, F, H, f => ∃ v ws f1 f2, vs = v :: ws ∧ f = f1 ++ f2 ∧ RlA G σ a ρ v F H f1 ∧ RlAs G σ as ρ ws F H f2
def RlI (G : Gs) : L2.St → List D → Env → List V → (Addr → Prop) → Hp → List Addr → Prop := fun _ ds _ vs F H f => f = [] ∧ Reps G F H ds vs

section
variable {X : Cx} {Js : SP} {G : Gs} {W : WX} {σ : L2.St} {F F1 : Addr → Prop} {fp fp1 : Nat → List Addr} {H H1 : Hp} {ρ ρ1 ρ2 : Env} {f : List Addr}
theorem RlA.step (s : Sto Js G F ρ σ H fp) (a : Step F fp H F1 fp1 H1) (t : Tmp F fp H f) {x : Arg} {v : V} (h : RlA G σ x ρ1 v F H f) : RlA G σ x ρ2 v F1 H1 f := by
  cases x with
  | r x => exact a.slr s t h
  | p i fs => exact h

theorem bw_loc {i : Nat} {x : Str} {pos : Pos} {m : M R} (hN : X.N[i]? = some x) (hv : Vis X.env.scope x) (hd : (x == ("__debug__" : Str)) = false) (hcd : (x == ("__classdict__" : Str)) = false) :
    PE X (.Name x pos) (tM Js G W (RlA G) (argM (.loc i []) m)) := by
  refine PE.weak (pe_var hN hv hd hcd) fun σ H Q h => ?_
  obtain ⟨F, ρ, fp, res, s, e, p⟩ := h
  unfold argM at e
  dsimp only at e
  unfold getL at e
  cases hr : getI ρ i with
  | none => rw [hr] at e; cases e
  | some r =>
    rw [hr] at e
    simp only [getP, Option.some.injEq] at e
    subst e
    obtain ⟨v, e2, q⟩ := s.sl i r hr
    exact ⟨v, e2, p F fp H v [] (.refl s) ⟨rfl, rfl, e2⟩⟩
/-- is it an expression read where it lies -/
def isLoc : E → Bool
  | .loc _ _ => true
  | _ => false
theorem argM_val {e : E} (h : isLoc e = false) (m : M R) : argM e m = M.bind m fun x => M.pure (.r x) := by
  cases e <;> first | rfl | cases h
theorem bw_argV {e : Expr} {m : M R} (h : PE X e (tE Js G W m)) : PE X e (tM Js G W (RlA G) (M.bind m fun x => M.pure (.r x))) := by
  refine PE.weak h fun σ H Q q => ?_
  refine tM.bind q fun F ρ fp a ρ1 F1 fp1 H1 v f res s em af rl e p => ?_
  unfold M.pure at e
  simp only [Option.some.injEq] at e
  subst e
  exact p F1 fp1 H1 v f af rl
theorem bw_as_nil {c : Ctx} : PA X [] (tM Js G W (RlAs G) (evs c [])) := by
  refine PA.weak pa_nil fun σ H Q q => ?_
  show Q [] H
  exact tM.pure_of (α := List Arg) (β := List V) (Rl := RlAs G) (a := []) (v := []) (by simpa only [evs] using q) fun _ _ => And.intro rfl rfl
theorem bw_as_cons {c : Ctx} {pe : Expr} {pes : List Expr} {e : E} {es : List E} (h : PE X pe (tM Js G W (RlA G) (argM e (ev c e)))) (hr : PA X pes (tM Js G W (RlAs G) (evs c es)))
    (hs : starEach (pe :: pes) X.env = (false, eval pe X.env) :: starEach pes X.env) : PA X (pe :: pes) (tM Js G W (RlAs G) (evs c (e :: es))) := by
  refine PA.weak (pa_cons h hr hs) fun σ H Q q => ?_
  obtain ⟨F, ρ, fp, res, s, e, p⟩ := q
  simp only [evs] at e
  refine bindO s e p.exc0 fun a ρ1 em e1 F1 fp1 H1 v f af rl => ?_
  refine bindO af.sto e1 (p.exc af) fun as ρ2 em2 e2 F2 fp2 H2 vs f2 af2 rls => ?_
  simp only [M.pure, Option.some.injEq] at e2
  subst e2
  exact p F2 fp2 H2 (v :: vs) (f ++ f2) (af.trans2 af2) ⟨v, vs, f, f2, rfl, rfl, rl.step af.sto af2.st af.tmp, rls⟩

/-! ### displays -/
def isStar : E → Bool
  | .star _ => true
  | _ => false
theorem itemM_val {e : E} (h : isStar e = false) (m : M R) : itemM e m = M.bind m fun x => M.pure [x.frz] := by
  cases e <;> first | rfl | cases h
theorem bw_is_nil {c : Ctx} : PA X [] (tM Js G W (RlI G) (evi c [])) := by
  refine PA.weak pa_nil fun σ H Q q => ?_
  show Q [] H
  exact tM.pure_of (α := List D) (β := List V) (Rl := RlI G) (a := []) (v := []) (by simpa only [evi] using q) fun _ _ => ⟨rfl, .nil⟩
theorem bw_is_cons {c : Ctx} {pe : Expr} {pes : List Expr} {e : E} {es : List E} (hn : isStar e = false) (h : PE X pe (tE Js G W (ev c e))) (hr : PA X pes (tM Js G W (RlI G) (evi c es)))
    (hs : starEach (pe :: pes) X.env = (false, eval pe X.env) :: starEach pes X.env) : PA X (pe :: pes) (tM Js G W (RlI G) (evi c (e :: es))) := by
  refine PA.weak (pa_cons h hr hs) fun σ H Q q => ?_
  obtain ⟨F, ρ, fp, res, s, e, p⟩ := q
  simp only [evi] at e
  rw [itemM_val hn, M.bind_assoc] at e
  refine bindO s e p.exc0 fun a ρ1 em e1 F1 fp1 H1 v f af rl => ?_
  rw [M.pure_bind] at e1
  have af' := af.frz
  have rep := af.frzRep rl
  refine bindO af'.sto e1 (p.exc af') fun ds ρ2 em2 e2 F2 fp2 H2 vs f2 af2 rls => ?_
  obtain ⟨rfl, rps⟩ := rls
  simp only [M.pure, Option.some.injEq] at e2
  subst e2
  exact p F2 fp2 H2 (v :: vs) [] (af'.trans af2) ⟨rfl, .cons (af2.st.rep af'.sto rep) rps⟩
theorem bw_tup {c : Ctx} {pes : List Expr} {es : List E} {k : Nat} {pos : Pos} (h : PA X pes (tM Js G W (RlI G) (evi c es))) : PE X (.Tuple pes k pos) (tE Js G W (ev c (.tup es))) := by
  refine PE.weak (pe_tup h) fun σ H Q q => ?_
  obtain ⟨F, ρ, fp, res, s, e, p⟩ := q
  simp only [ev] at e
  refine bindO s e p.exc0 fun ds ρ1 em e1 F1 fp1 H1 vs f af rl => ?_
  obtain ⟨rfl, rps⟩ := rl
  by_cases hz : ds.length ≤ sizeMax
  · simp only [M.opt, if_pos hz, Option.some.injEq] at e1
    subst e1
    refine ⟨by rw [← rps.length]; exact Nat.le_trans hz sizeMax_le, fun q hq => ?_⟩
    refine p _ fp1 (upd H1 q (.tup vs)) (.ref q) [] (af.newF (o := .tup vs) hq) ?_
    simp only [RlV, SlR, Rep]
    have nq : ∀ b, F1 b → b ≠ q := fun b hb e => by subst e; exact af.sto.fr b hb hq
    exact ⟨trivial, q, vs, rfl, .inl ⟨.inr rfl, upd_same⟩, rps.mono (fun _ h => .inl h) fun b hb => by rw [upd_ne (nq b hb)]⟩
  · simp only [M.opt, if_neg hz] at e1; cases e1
theorem bw_lst {c : Ctx} {pes : List Expr} {es : List E} {pos : Pos} (h : PA X pes (tM Js G W (RlI G) (evi c es))) : PE X (.List pes pos) (tE Js G W (ev c (.lst es))) := by
  refine PE.weak (pe_lst h) fun σ H Q q => ?_
  obtain ⟨F, ρ, fp, res, s, e, p⟩ := q
  simp only [ev] at e
  refine bindO s e p.exc0 fun ds ρ1 em e1 F1 fp1 H1 vs f af rl => ?_
  obtain ⟨rfl, rps⟩ := rl
  by_cases hz : ds.length ≤ sizeMax
  · simp only [M.opt, if_pos hz, Option.some.injEq] at e1
    subst e1
    refine ⟨by rw [← rps.length]; exact Nat.le_trans hz sizeMax_le, fun q hq => ?_⟩
    refine p _ fp1 (upd H1 q (.lst vs)) (.ref q) [q] (af.newO (o := .lst vs) hq fun _ z => nomatch z) ?_
    simp only [RlV, SlR]
    have nq : ∀ b, F1 b → b ≠ q := fun b hb e => by subst e; exact af.sto.fr b hb hq
    exact ⟨q, rfl, rfl, vs, upd_same, rps.mono (fun _ h => h) fun b hb => by rw [upd_ne (nq b hb)]⟩
  · simp only [M.opt, if_neg hz] at e1; cases e1

/-! ### tests, and, or, if -/
theorem bw_ite {c : Ctx} {pt pa pb : Expr} {pos : Pos} {t a b : E} (ht : PT X pt (tT Js G W (evt c t))) (ha : PE X pa (tE Js G W (ev c a))) (hb : PE X pb (tE Js G W (ev c b))) : PE X (.IfExp pt pa pb pos) (tE Js G W (ev c (.ite t a b))) := by
  refine PE.weak (pe_ifExp ht ha hb) fun σ H Q q => ?_
  obtain ⟨F, ρ, fp, res, s, e, p⟩ := q
  simp only [ev] at e
  refine bindO s e p.exc0 fun tv ρ1 em e1 F1 fp1 H1 bv f af rl => ?_
  obtain ⟨rfl, rfl⟩ := rl
  cases tv with
  | true => exact tM.of af.sto (by simpa using e1) (p.rest af)
  | false => exact tM.of af.sto (by simpa using e1) (p.rest af)
theorem bw_tnot {c : Ctx} {pa : Expr} {pos : Pos} {a : E} (ha : PT X pa (tT Js G W (evt c a))) : PT X (.UnaryOp .Not pa pos) (tT Js G W (evt c (.tnot a))) := by
  refine PT.weak (pt_not ha) fun σ H Q q => ?_
  obtain ⟨F, ρ, fp, res, s, e, p⟩ := q
  simp only [evt] at e
  refine bindO s e p.exc0 fun tv ρ1 em e1 F1 fp1 H1 bv f af rl => ?_
  obtain ⟨rfl, rfl⟩ := rl
  simp only [M.pure, Option.some.injEq] at e1
  subst e1
  exact p F1 fp1 H1 (!tv) [] af ⟨rfl, rfl⟩
theorem tAnd_of {c : Ctx} {a b : E} {σ : L2.St} {H : Hp} {Q : Bool → Hp → Prop} (q : tT Js G W (evt c (.tand a b)) σ H Q) : tAnd (tT Js G W (evt c a)) (tT Js G W (evt c b)) σ H Q := by
  obtain ⟨F, ρ, fp, res, s, e, p⟩ := q
  simp only [evt] at e
  refine bindO s e p.exc0 fun tv ρ1 em e1 F1 fp1 H1 bv f af rl => ?_
  obtain ⟨rfl, rfl⟩ := rl
  cases tv with
  | true => exact tM.of af.sto (by simpa using e1) (p.rest af)
  | false =>
    simp only [M.pure, Bool.false_eq_true, if_false, Option.some.injEq] at e1
    subst e1
    exact p F1 fp1 H1 false [] af ⟨rfl, rfl⟩
theorem tOr_of {c : Ctx} {a b : E} {σ : L2.St} {H : Hp} {Q : Bool → Hp → Prop} (q : tT Js G W (evt c (.tor a b)) σ H Q) : tOr (tT Js G W (evt c a)) (tT Js G W (evt c b)) σ H Q := by
  obtain ⟨F, ρ, fp, res, s, e, p⟩ := q
  simp only [evt] at e
  refine bindO s e p.exc0 fun tv ρ1 em e1 F1 fp1 H1 bv f af rl => ?_
  obtain ⟨rfl, rfl⟩ := rl
  cases tv with
  | true =>
    simp only [M.pure, if_true, Option.some.injEq] at e1
    subst e1
    exact p F1 fp1 H1 true [] af ⟨rfl, rfl⟩
  | false => exact tM.of af.sto (by simpa using e1) (p.rest af)
end
end Mini
/-! Mini, part E: primitives by values: the frame. -/
namespace Mini
open PySem L2

/-- the heap grew; f: what of it is own -/
structure Grow (F : Addr → Prop) (H : Hp) (F' : Addr → Prop) (H' : Hp) (f : List Addr) : Prop where
  sub : ∀ b, F b → F' b
  keep : ∀ b o, H b = some o → H' b = some o
  new : ∀ b, F' b → F b ∨ H b = none ∨ ∃ xs, H b = some (.tup xs)
  fresh : ∀ b, b ∈ f → H b = none ∧ ¬ F' b ∧ Ow H' b
  nd : f.Nodup
  al : ∀ b, F' b → H' b ≠ none
theorem Grow.refl {F : Addr → Prop} {H : Hp} (h : ∀ b, F b → H b ≠ none) : Grow F H F H [] := ⟨fun _ h => h, fun _ _ h => h, fun _ h => .inl h, fun _ h => by simp at h, .nil, h⟩
theorem Grow.newF {F : Addr → Prop} {H : Hp} {p : Addr} {o : HO} (h : ∀ b, F b → H b ≠ none) (hp : H p = none) : Grow F H (fun b => F b ∨ b = p) (upd H p o) [] where
  sub := fun _ h => .inl h
  keep := fun b u e => by rw [upd_ne (ne_of_none e hp)]; exact e
  new := fun b q => q.elim .inl fun e => .inr (.inl (by rw [e]; exact hp))
  fresh := fun _ h => by simp at h
  nd := .nil
  al := fun b q => by
    by_cases e : b = p
    · subst e; rw [upd_same]; simp
    · rw [upd_ne e]; exact q.elim (h b) fun z => absurd z e
theorem Grow.newO {F : Addr → Prop} {H : Hp} {p : Addr} {o : HO} (h : ∀ b, F b → H b ≠ none) (hp : H p = none) (ho : ∀ xs, o ≠ .tup xs) : Grow F H F (upd H p o) [p] where
  sub := fun _ h => h
  keep := fun b u e => by rw [upd_ne (ne_of_none e hp)]; exact e
  new := fun b q => .inl q
  fresh := fun b q => by
    have e : b = p := by simpa using q
    subst e
    exact ⟨hp, fun z => h b z hp, by rw [upd_same]; simp, fun xs => by rw [upd_same]; exact fun z => ho xs (Option.some.inj z)⟩
  nd := by simp
  al := fun b q => by
    by_cases e : b = p
    · subst e; rw [upd_same]; simp
    · rw [upd_ne e]; exact h b q
theorem Grow.ne {F F' : Addr → Prop} {H H' : Hp} {f : List Addr} (g : Grow F H F' H' f) (h : ∀ b, F b → H b ≠ none) : ∀ b, F b → st1 (H' b) = st1 (H b) := fun b hb => by
  cases e : H b with
  | none => exact absurd e (h b hb)
  | some o => rw [g.keep b o e]
theorem Grow.trans {F F1 F2 : Addr → Prop} {H H1 H2 : Hp} {f1 f2 : List Addr} (a : Grow F H F1 H1 f1) (b : Grow F1 H1 F2 H2 f2) : Grow F H F2 H2 f2 where
  sub := fun x h => b.sub x (a.sub x h)
  keep := fun x o h => b.keep x o (a.keep x o h)
  new := fun x h => (b.new x h).elim (a.new x) fun z => by
    cases e : H x with
    | none => exact .inr (.inl rfl)
    | some o =>
      rw [a.keep x o e] at z
      rcases z with z | ⟨xs, z⟩
      · cases z
      · exact .inr (.inr ⟨xs, z⟩)
  fresh := fun x h => ⟨by
    cases e : H x with
    | none => rfl
    | some o => (have z := (b.fresh x h).1; rw [a.keep x o e] at z; cases z), (b.fresh x h).2⟩
  nd := b.nd
  al := b.al

section
variable {Js : SP} {G : Gs} {W : WX} {F F0 F1 F' : Addr → Prop} {fp fp0 : Nat → List Addr} {H H0 H1 H' : Hp} {ρ ρ1 : Env} {σ : L2.St} {f f0 : List Addr}
theorem Aft.grow (a : Aft Js G F0 fp0 H0 ρ σ F fp H f0) (g : Grow F H F' H' f) : Aft Js G F0 fp0 H0 ρ σ F' fp H' f where
  st := ⟨fun b h => g.sub b (a.st.sub b h), fun b o h n => g.keep b o (a.st.keep b o h n), fun b h => (g.new b h).elim (a.st.new b) (fun z => by
      by_cases hx : ∃ i, b ∈ fp0 i
      · exact .inr (.inl hx)
      · cases e : H0 b with
        | none => exact .inr (.inr (.inl rfl))
        | some o =>
          rw [a.st.keep b o e fun i hi => hx ⟨i, hi⟩] at z
          rcases z with z | ⟨xs, z⟩
          · cases z
          · exact .inr (.inr (.inr ⟨xs, z⟩))), a.st.newO⟩
  sto := by
    have same : ∀ i b, b ∈ fp i → H' b = H b := fun i b h => by
      cases e : H b with
      | none => exact absurd e (a.sto.out i b h).2.1
      | some o => exact g.keep b o e
    refine ⟨a.sto.len, fun i r h => ?_, a.sto.nd, a.sto.dj, fun i b h => ⟨fun z => by
      rcases g.new b z with z | z | ⟨xs, z⟩
      · exact (a.sto.out i b h).1 z
      · exact (a.sto.out i b h).2.1 z
      · exact (a.sto.out i b h).2.2 xs z, (a.sto.out i b h).2.of (same i b h)⟩, g.al, Js.m g.sub (g.ne a.sto.fr) a.sto.j⟩
    obtain ⟨v, e, q⟩ := a.sto.sl i r h
    exact ⟨v, e, q.mono g.sub (g.ne a.sto.fr) (same i)⟩
  tmp := ⟨g.nd, fun i b h q => (a.sto.out i b q).2.1 (g.fresh b h).1, fun b h => (g.fresh b h).2⟩
  src := fun b h => by
    have z := (g.fresh b h).1
    by_cases hx : ∃ i, b ∈ fp0 i
    · exact .inl hx
    · cases e : H0 b with
      | none => exact .inr rfl
      | some o => (rw [a.st.keep b o e fun i hi => hx ⟨i, hi⟩] at z; cases z)

/-- data, the outermost list or dict wherever it lies -/
def Rep1 (G : Gs) (F : Addr → Prop) (H : Hp) : D → V → Prop
  | .lst ds, v => ∃ a vs, v = .ref a ∧ SqL G.K H a vs ∧ Reps G F H ds vs
  | .dic kvs, v => ∃ a, v = .ref a ∧ ((∃ ks, Rd H a (.dK ks) ∧ RepK G F H kvs ks) ∨ (∃ ks, Rd H a (.dT ks) ∧ RepT G F H kvs ks))
  | d, v => Rep G F H d v
def Rep1s (G : Gs) (F : Addr → Prop) (H : Hp) : List D → List V → Prop
  | [], vs => vs = []
  | d :: r, vs => ∃ v q, vs = v :: q ∧ Rep1 G F H d v ∧ Rep1s G F H r q
theorem Rep.rep1 : ∀ {d : D} {v : V}, Rep G F H d v → Rep1 G F H d v
  | .lst ds, v, h => by
    simp only [Rep] at h
    obtain ⟨a, vs, e, p, r⟩ := h
    refine ⟨a, vs, e, ?_, r⟩
    rcases p with ⟨_, p⟩ | p
    · exact .inl (st1_lst.mp p)
    · exact .inr p
  | .dic kvs, v, h => by
    simp only [Rep] at h
    obtain ⟨a, e, _, p⟩ := h
    refine ⟨a, e, ?_⟩
    rcases p with ⟨ks, p, q⟩ | ⟨ks, p, q⟩
    · exact .inl ⟨ks, st1_dK.mp p, q⟩
    · exact .inr ⟨ks, st1_dT.mp p, q⟩
  | .non, _, h => h
  | .bl _, _, h => h
  | .int _, _, h => h
  | .str _, _, h => h
  | .tup _, _, h => h
  | .obj _ _, _, h => h
  | .fn _, _, h => h
  | .nimp, _, h => h
theorem SlR.rep1 {r : R} {v : V} {d : D} (h : SlR G F H r v f) (e : r.val = some d) : Rep1 G F H d v := by
  cases r with
  | d x =>
    simp only [R.val, Option.some.injEq] at e
    subst e
    simp only [SlR] at h
    exact h.2.rep1
  | own x =>
    simp only [R.val, Option.some.injEq] at e
    subst e
    simp only [SlR] at h
    obtain ⟨a, e, _, o⟩ := h
    cases x with
    | lst ds => obtain ⟨vs, e2, r⟩ := o; exact ⟨a, vs, e, .inl (.inl e2), r⟩
    | dic kvs =>
      rcases o with ⟨ks, e2, r⟩ | ⟨ks, _, e2, r⟩
      · exact ⟨a, e, .inl ⟨ks, .inl e2, r⟩⟩
      · exact ⟨a, e, .inr ⟨ks, .inl e2, r⟩⟩
    | _ => exact o.elim
  | obj c fs => simp [R.val] at e
theorem RlA.rep1 (s : Sto Js G F ρ σ H fp) {a : Arg} {v : V} {d : D} (h : RlA G σ a ρ1 v F H f) (e : argD ρ a = some d) : Rep1 G F H d v := by
  cases a with
  | r x => exact SlR.rep1 (show SlR G F H x v f from h) e
  | p i fs =>
    obtain ⟨rfl, rfl, hv⟩ := h
    simp only [argD, getL] at e
    cases hr : getI ρ i with
    | none => rw [hr] at e; simp at e
    | some r =>
      rw [hr] at e
      simp only [getP, Option.bind_some] at e
      obtain ⟨u, eu, q⟩ := s.sl i r hr
      rw [hv] at eu
      cases eu
      exact q.rep1 e

/-- what is asked of a primitive's result -/
def PP (G : Gs) (W : WX) (σ : L2.St) (F : Addr → Prop) (H : Hp) (res : Rs R) (Q : VK) : Prop :=
  match res with
  | .ok r => ∀ F' H' v f, Grow F H F' H' f → SlR G F' H' r v f → Q v H'
  | .ex x => ∀ F' H' cls d, Grow F H F' H' [] → XRel G F' H' x cls d → W cls d σ H'
theorem Post.pp {res : Rs R} {Q : VK} (p : Post Js G W (RlV G) F0 fp0 H0 σ (res, ρ) Q) (a : Aft Js G F0 fp0 H0 ρ σ F fp H f0) : PP G W σ F H res Q := by
  cases res with
  | ok r => exact fun F' H' v f g rl => p F' fp H' v f (a.grow g) rl
  | ex x => exact fun F' H' cls d g rl => p F' fp H' cls d (a.grow g) rl
/-- a scalar result -/
theorem PP.scal {d : D} {v : V} {Q : VK} (p : PP G W σ F H (.ok (.d d)) Q) (hF : ∀ b, F b → H b ≠ none) (r : Rep G F H d v) : Q v H :=
  p F H v [] (.refl hF) (by simp only [SlR]; exact ⟨trivial, r⟩)

/-- what a primitive of two arguments asks -/
def Sound2 (G : Gs) (W : WX) (c : Ctx) (p : Pr) (r : R2) : Prop :=
  ∀ (σ : L2.St) (F : Addr → Prop) (H : Hp) (a b : D) (v u : V) (res : Rs R) (Q : VK), (∀ x, F x → H x ≠ none) → prim c p [a, b] = some res → Rep1 G F H a v → Rep1 G F H b u → PP G W σ F H res Q → r v u H Q
def Sound1 (G : Gs) (W : WX) (c : Ctx) (p : Pr) (r : V → Hp → VK → Prop) : Prop :=
  ∀ (σ : L2.St) (F : Addr → Prop) (H : Hp) (a : D) (v : V) (res : Rs R) (Q : VK), (∀ x, F x → H x ≠ none) → prim c p [a] = some res → Rep1 G F H a v → PP G W σ F H res Q → r v H Q
def SoundL (G : Gs) (W : WX) (c : Ctx) (p : Pr) (r : List V → Hp → VK → Prop) : Prop :=
  ∀ (σ : L2.St) (F : Addr → Prop) (H : Hp) (as : List D) (vs : List V) (res : Rs R) (Q : VK), (∀ x, F x → H x ≠ none) → prim c p as = some res → Rep1s G F H as vs → PP G W σ F H res Q → r vs H Q

theorem ev_prim2 (c : Ctx) (p : Pr) (a b : E) : ev c (.prim p [a, b]) = M.bind (argM a (ev c a)) fun x => M.bind (argM b (ev c b)) fun y => fun e => match argsD e [x, y] with
      | none => none
      | some ds => M.lift (prim c p ds) e := by
  first | (simp only [ev, evs, M.bind_assoc, M.pure_bind]; done) | (simp only [ev, evs, M.bind_assoc, M.pure_bind]; rfl)
theorem ev_prim1 (c : Ctx) (p : Pr) (a : E) : ev c (.prim p [a]) = M.bind (argM a (ev c a)) fun x => fun e => match argsD e [x] with
      | none => none
      | some ds => M.lift (prim c p ds) e := by
  first | (simp only [ev, evs, M.bind_assoc, M.pure_bind]; done) | (simp only [ev, evs, M.bind_assoc, M.pure_bind]; rfl)
theorem argsD2 {x y : Arg} {l : List D} (h : argsD ρ [x, y] = some l) : ∃ d e, argD ρ x = some d ∧ argD ρ y = some e ∧ l = [d, e] := by
  simp only [argsD] at h
  cases h1 : argD ρ x <;> cases h2 : argD ρ y <;> rw [h1, h2] at h <;> simp at h
  exact ⟨_, _, rfl, rfl, h.symm⟩
theorem argsD1 {x : Arg} {l : List D} (h : argsD ρ [x] = some l) : ∃ d, argD ρ x = some d ∧ l = [d] := by
  simp only [argsD] at h
  cases h1 : argD ρ x <;> rw [h1] at h <;> simp at h
  exact ⟨_, rfl, h.symm⟩

variable {X : Cx}
theorem bw_prim2 {c : Ctx} {p : Pr} {a b : E} {pe : Expr} {r : R2} {ta tb : TE} (hta : ta = tM Js G W (RlA G) (argM a (ev c a))) (htb : tb = tM Js G W (RlA G) (argM b (ev c b))) (h : PE X pe (tOp r ta tb)) (hs : Sound2 G W c p r) :
    PE X pe (tE Js G W (ev c (.prim p [a, b]))) := by
  refine PE.weak h fun σ H Q q => ?_
  subst hta htb
  obtain ⟨F, ρ, fp, res, s, e, p'⟩ := q
  rw [ev_prim2] at e
  refine bindO s e p'.exc0 fun x ρ1 em e1 F1 fp1 H1 v f af rl => ?_
  refine bindO af.sto e1 (p'.exc af) fun y ρ2 em2 e2 F2 fp2 H2 u f2 af2 rl2 => ?_
  cases hd : argsD ρ2 [x, y] with
  | none => rw [hd] at e2; cases e2
  | some l =>
    rw [hd] at e2
    obtain ⟨d1, d2, h1, h2, rfl⟩ := argsD2 hd
    simp only [M.lift] at e2
    cases hp : prim c p [d1, d2] with
    | none => rw [hp] at e2; cases e2
    | some r0 =>
      rw [hp] at e2
      simp only [Option.some.injEq] at e2
      subst e2
      have a2 := af.trans af2
      exact hs σ F2 H2 d1 d2 v u r0 Q a2.sto.fr hp (RlA.rep1 (ρ1 := ρ2) a2.sto (rl.step af.sto af2.st af.tmp) h1) (RlA.rep1 a2.sto rl2 h2) (p'.pp a2)
theorem bw_prim1 {c : Ctx} {p : Pr} {a : E} {pe : Expr} {r : V → Hp → VK → Prop} {ta : TE} (hta : ta = tM Js G W (RlA G) (argM a (ev c a))) (h : PE X pe (fun σ H Q => ta σ H fun x H1 => r x H1 Q)) (hs : Sound1 G W c p r) :
    PE X pe (tE Js G W (ev c (.prim p [a]))) := by
  refine PE.weak h fun σ H Q q => ?_
  subst hta
  obtain ⟨F, ρ, fp, res, s, e, p'⟩ := q
  rw [ev_prim1] at e
  refine bindO s e p'.exc0 fun x ρ1 em e1 F1 fp1 H1 v f af rl => ?_
  cases hd : argsD ρ1 [x] with
  | none => rw [hd] at e1; cases e1
  | some l =>
    rw [hd] at e1
    obtain ⟨d1, h1, rfl⟩ := argsD1 hd
    simp only [M.lift] at e1
    cases hp : prim c p [d1] with
    | none => rw [hp] at e1; cases e1
    | some r0 =>
      rw [hp] at e1
      simp only [Option.some.injEq] at e1
      subst e1
      exact hs σ F1 H1 d1 v r0 Q af.sto.fr hp (RlA.rep1 af.sto rl h1) (p'.pp af)
theorem RlAs.rep1s : ∀ {as : List Arg} {vs : List V} {ds : List D} {f : List Addr}, Sto Js G F ρ σ H fp → RlAs G σ as ρ1 vs F H f → argsD ρ as = some ds → Rep1s G F H ds vs
  | [], _, _, _, _, h, e => by
    simp only [argsD, Option.some.injEq] at e
    subst e
    exact h.1
  | a :: as, _, _, _, s, h, e => by
    obtain ⟨v, ws, f1, f2, rfl, rfl, h1, h2⟩ := h
    simp only [argsD] at e
    cases e1 : argD ρ a <;> cases e2 : argsD ρ as <;> rw [e1, e2] at e <;> simp at e
    subst e
    exact ⟨v, ws, rfl, RlA.rep1 s h1 e1, RlAs.rep1s s h2 e2⟩
theorem bw_primL {c : Ctx} {p : Pr} {es : List E} {pe : Expr} {r : List V → Hp → VK → Prop} {ta : TA} (hta : ta = tM Js G W (RlAs G) (evs c es)) (h : PE X pe (tCB r ta)) (hs : SoundL G W c p r) :
    PE X pe (tE Js G W (ev c (.prim p es))) := by
  refine PE.weak h fun σ H Q q => ?_
  subst hta
  obtain ⟨F, ρ, fp, res, s, e, p'⟩ := q
  simp only [ev] at e
  refine bindO s e p'.exc0 fun as ρ1 em e1 F1 fp1 H1 vs f af rl => ?_
  cases hd : argsD ρ1 as with
  | none => rw [hd] at e1; cases e1
  | some l =>
    rw [hd] at e1
    simp only [M.lift] at e1
    cases hp : prim c p l with
    | none => rw [hp] at e1; cases e1
    | some r0 =>
      rw [hp] at e1
      simp only [Option.some.injEq] at e1
      subst e1
      exact hs σ F1 H1 l vs r0 Q af.sto.fr hp (RlAs.rep1s af.sto rl hd) (p'.pp af)
end
end Mini
/-! Mini, part F: calls of defs. -/
namespace Mini
open PySem L2

section
variable {Js : SP} {G : Gs} {W : WX} {F F0 F1 F2 F' : Addr → Prop} {fp fp0 fp1 fp2 : Nat → List Addr} {H H0 H1 H2 H' : Hp} {ρ ρ1 ρ2 : Env} {σ : L2.St} {f f0 f1 g : List Addr}

theorem Aft.tsub (a : Aft Js G F0 fp0 H0 ρ σ F fp H f) (n : g.Nodup) (m : ∀ b, b ∈ g → b ∈ f) : Aft Js G F0 fp0 H0 ρ σ F fp H g :=
  ⟨a.st, a.sto, ⟨n, fun i b h => a.tmp.dj i b (m b h), fun b h => a.tmp.out b (m b h)⟩, fun b h => a.src b (m b h)⟩
/-- a part of what is held for the time is stored -/
theorem Aft.storeG (a : Aft Js G F0 fp0 H0 ρ σ F fp H f) {i : Nat} {r : R} {v : V} (h : SlR G F H r v f1) (m1 : ∀ b, b ∈ f1 → b ∈ f) (n1 : f1.Nodup) (hi : i < ρ.length) (n : g.Nodup) (m : ∀ b, b ∈ g → b ∈ f ∧ b ∉ f1) (hj : Js.p (σ.set i (some v)) F H) :
    Aft Js G F0 fp0 H0 (ρ.set i (some r)) (σ.set i (some v)) F (fpSet fp i f1) H g := by
  have b := (a.tsub n1 m1).store h hi hj
  refine ⟨b.st, b.sto, ⟨n, fun j x hx hj => ?_, fun x hx => a.tmp.out x (m x hx).1⟩, fun x hx => a.src x (m x hx).1⟩
  by_cases e : j = i
  · subst e; rw [fpSet_same] at hj; exact (m x hx).2 hj
  · rw [fpSet_ne e] at hj; exact a.tmp.dj j x (m x hx).1 hj

def SlRs (G : Gs) (F : Addr → Prop) (H : Hp) : List R → List V → List (List Addr) → Prop
  | [], vs, L => vs = [] ∧ L = []
  | r :: rs, vs, L => ∃ v ws f M, vs = v :: ws ∧ L = f :: M ∧ SlR G F H r v f ∧ SlRs G F H rs ws M
theorem SlRs.length : ∀ {rs : List R} {vs : List V} {L : List (List Addr)}, SlRs G F H rs vs L → rs.length = vs.length
  | [], _, _, h => by rw [h.1]; rfl
  | r :: rs, _, _, h => by
    obtain ⟨v, ws, f, M, rfl, rfl, _, h⟩ := h
    simp [h.length]
theorem SlRs.get : ∀ {rs : List R} {vs : List V} {L : List (List Addr)} {i : Nat} {r : R}, SlRs G F H rs vs L → rs[i]? = some r → ∃ v, vs[i]? = some v ∧ SlR G F H r v (L.getD i [])
  | [], _, _, _, _, _, e => by simp at e
  | x :: rs, _, _, 0, r, h, e => by
    obtain ⟨v, ws, f, M, rfl, rfl, h1, h⟩ := h
    simp at e
    subst e
    exact ⟨v, by simp, h1⟩
  | x :: rs, _, _, i + 1, r, h, e => by
    obtain ⟨v, ws, f, M, rfl, rfl, h1, h⟩ := h
    obtain ⟨u, e1, e2⟩ := h.get (i := i) (r := r) (by simpa using e)
    exact ⟨u, by simpa using e1, by simpa using e2⟩
theorem getD_mem {L : List (List Addr)} {i : Nat} {b : Addr} (h : b ∈ L.getD i []) : i < L.length ∧ b ∈ L.flatten := by
  by_cases hi : i < L.length
  · refine ⟨hi, ?_⟩
    rw [List.getD_eq_getElem?_getD, List.getElem?_eq_getElem hi] at h
    exact List.mem_flatten.mpr ⟨L[i], List.getElem_mem hi, h⟩
  · rw [List.getD_eq_getElem?_getD, List.getElem?_eq_none (by omega)] at h; simp at h
theorem getD_nd : ∀ {L : List (List Addr)}, L.flatten.Nodup → (∀ i, (L.getD i []).Nodup) ∧ ∀ i j b, b ∈ L.getD i [] → b ∈ L.getD j [] → i = j
  | [], _ => ⟨fun i => by simp, fun i j b h => by simp at h⟩
  | f :: L, h => by
    rw [List.flatten_cons] at h
    obtain ⟨h1, h2, h3⟩ := List.nodup_append.mp h
    obtain ⟨i1, i2⟩ := getD_nd h2
    refine ⟨fun i => ?_, fun i j b hi hj => ?_⟩
    · cases i with
      | zero => simpa using h1
      | succ i => simpa using i1 i
    · cases i with
      | zero =>
        cases j with
        | zero => rfl
        | succ j =>
          have a1 : b ∈ f := by simpa using hi
          have a2 : b ∈ L.getD j [] := by simpa using hj
          exact absurd rfl (h3 b a1 b (getD_mem a2).2)
      | succ i =>
        cases j with
        | zero =>
          have a1 : b ∈ f := by simpa using hj
          have a2 : b ∈ L.getD i [] := by simpa using hi
          exact absurd rfl (h3 b a1 b (getD_mem a2).2)
        | succ j =>
          have a1 : b ∈ L.getD i [] := by simpa using hi
          have a2 : b ∈ L.getD j [] := by simpa using hj
          rw [i2 i j b a1 a2]

/-- the arguments as slots of the callee -/
theorem SlRs.sto {rs : List R} {vs : List V} {L : List (List Addr)} (h : SlRs G F H rs vs L) (t : Tmp F fp H L.flatten) (fr : ∀ a, F a → H a ≠ none) : Sto JT G F (rs.map some) (vs.map some) H (fun i => L.getD i []) := by
  obtain ⟨n1, n2⟩ := getD_nd t.nd
  refine ⟨by simp [h.length], fun i r e => ?_, n1, n2, fun i b hb => t.out b (getD_mem hb).2, fr, trivial⟩
  have e' : rs[i]? = some r := by
    unfold getI at e
    rw [List.getElem?_map] at e
    cases q : rs[i]? with
    | none => rw [q] at e; simp at e
    | some x => rw [q] at e; simp only [Option.map_some, Option.some.injEq] at e; rw [e]
  obtain ⟨v, e1, e2⟩ := h.get e'
  exact ⟨v, by rw [List.getElem?_map, e1]; rfl, e2⟩

theorem takeA_ok : ∀ {as : List Arg} {vs : List V} {f g : List Addr} {ρ ρ' : Env} {fp : Nat → List Addr} {rs : List R}, Aft Js G F0 fp0 H0 ρ σ F fp H (f ++ g) → RlAs G σ as ρ1 vs F H f → takeA as ρ = some (rs, ρ') →
    ∃ fp' L, Aft Js G F0 fp0 H0 ρ' σ F fp' H (L.flatten ++ g) ∧ SlRs G F H rs vs L
  | [], _, f, g, ρ, ρ', fp, rs, a, h, e => by
    obtain ⟨rfl, rfl⟩ := h
    simp only [takeA, Option.some.injEq, Prod.mk.injEq] at e
    obtain ⟨rfl, rfl⟩ := e
    exact ⟨fp, [], a, rfl, rfl⟩
  | x :: as, _, f, g, ρ, ρ', fp, rs, a, h, e => by
    obtain ⟨v, ws, f1, f2, rfl, rfl, h1, h2⟩ := h
    have nd := a.tmp.nd
    cases x with
    | r x =>
      have h1 : SlR G F H x v f1 := h1
      have main : ∀ p, takeA as ρ = some p → some (x :: p.1, p.2) = some (rs, ρ') → ∃ fp' L, Aft Js G F0 fp0 H0 ρ' σ F fp' H (L.flatten ++ g) ∧ SlRs G F H rs (v :: ws) L := fun p ep e => by
        obtain ⟨rs1, ρ3⟩ := p
        simp only [Option.some.injEq, Prod.mk.injEq] at e
        obtain ⟨rfl, rfl⟩ := e
        have a' : Aft Js G F0 fp0 H0 ρ σ F fp H (f2 ++ (f1 ++ g)) := a.tsub (by
          rw [List.append_assoc] at nd
          have := List.perm_append_comm_assoc f1 f2 g
          exact this.nodup nd) (fun b hb => by
          simp only [List.mem_append] at hb ⊢
          rcases hb with h | h | h
          · exact .inl (.inr h)
          · exact .inl (.inl h)
          · exact .inr h)
        obtain ⟨fp', L, b, s⟩ := takeA_ok a' h2 ep
        refine ⟨fp', f1 :: L, b.tsub ?_ fun b hb => ?_, v, ws, f1, L, rfl, rfl, h1, s⟩
        · rw [List.flatten_cons, List.append_assoc]
          exact (List.perm_append_comm_assoc L.flatten f1 g).nodup b.tmp.nd
        · rw [List.flatten_cons] at hb
          simp only [List.mem_append] at hb ⊢
          rcases hb with (h | h) | h
          · exact .inr (.inl h)
          · exact .inl h
          · exact .inr (.inr h)
      simp only [takeA] at e
      cases q : takeA as ρ with
      | none => simp only [q] at e; cases e
      | some p => simp only [q] at e; exact main p q e
    | p i fs =>
      obtain ⟨rfl, rfl, hv⟩ := h1
      simp only [takeA] at e
      cases hr : getI ρ i with
      | none => rw [hr] at e; cases e
      | some r =>
        rw [hr] at e
        obtain ⟨u, eu, q⟩ := a.sto.sl i r hr
        rw [hv] at eu
        cases eu
        have main : (∃ p, takeA as (ρ.set i none) = some p ∧ some (r :: p.1, p.2) = some (rs, ρ')) → ∃ fp' L, Aft Js G F0 fp0 H0 ρ' σ F fp' H (L.flatten ++ g) ∧ SlRs G F H rs (v :: ws) L := fun ⟨p, ep, e⟩ => by
          obtain ⟨rs1, ρ3⟩ := p
          simp only [Option.some.injEq, Prod.mk.injEq] at e
          obtain ⟨rfl, rfl⟩ := e
          obtain ⟨u, eu, qs, mv⟩ := a.sto.move hr
          rw [hv] at eu
          cases eu
          have a2 := a.trans2 mv
          have nd2 := a2.tmp.nd
          have a' : Aft Js G F0 fp0 H0 (ρ.set i none) σ F (fpSet fp i []) H (f2 ++ (fp i ++ g)) := a2.tsub (by
            rw [List.nil_append, List.append_assoc] at nd2
            exact ((List.perm_append_comm (l₁ := g) (l₂ := fp i)).append_left f2).nodup nd2) (fun b hb => by
            simp only [List.mem_append, List.nil_append] at hb ⊢
            rcases hb with h | h | h
            · exact .inl (.inl h)
            · exact .inr h
            · exact .inl (.inr h))
          obtain ⟨fp', L, b, s⟩ := takeA_ok a' h2 ep
          refine ⟨fp', fp i :: L, b.tsub ?_ fun b hb => ?_, v, ws, fp i, L, rfl, rfl, qs, s⟩
          · rw [List.flatten_cons, List.append_assoc]
            exact (List.perm_append_comm_assoc L.flatten (fp i) g).nodup b.tmp.nd
          · rw [List.flatten_cons] at hb
            simp only [List.mem_append] at hb ⊢
            rcases hb with (h | h) | h
            · exact .inr (.inl h)
            · exact .inl h
            · exact .inr (.inr h)
        cases r with
        | d x =>
          cases ep : takeA as ρ with
          | none => simp only [ep] at e; cases e
          | some p =>
            obtain ⟨rs1, ρ3⟩ := p
            simp only [ep, Option.some.injEq, Prod.mk.injEq] at e
            obtain ⟨rfl, rfl⟩ := e
            simp only [SlR] at q
            obtain ⟨fp', L, b, s⟩ := takeA_ok (f := f2) (g := g) (by simpa using a) h2 ep
            exact ⟨fp', [] :: L, by simpa using b, v, ws, [], L, rfl, rfl, by simp only [SlR]; exact ⟨trivial, q.2⟩, s⟩
        | own x =>
          cases ep : takeA as (ρ.set i none) with
          | none => simp only [ep] at e; cases e
          | some p => simp only [ep] at e; exact main ⟨p, ep, e⟩
        | obj c fs =>
          cases ep : takeA as (ρ.set i none) with
          | none => simp only [ep] at e; cases e
          | some p => simp only [ep] at e; exact main ⟨p, ep, e⟩

/-- behind a callee that had f -/
theorem Aft.callee {fpA : Nat → List Addr} (a : Aft Js G F0 fp0 H0 ρ σ F fp H f) (hA : ∀ k b, b ∈ fpA k → b ∈ f) (st : Step F fpA H F2 fp2 H2) (fr2 : ∀ b, F2 b → H2 b ≠ none)
    (nd : g.Nodup) (sg : ∀ b, b ∈ g → (∃ k, b ∈ fpA k) ∨ H b = none) (og : ∀ b, b ∈ g → ¬ F2 b ∧ Ow H2 b) : Aft Js G F0 fp0 H0 ρ σ F2 fp H2 g := by
  have none0 : ∀ b, H b = none → (∃ i, b ∈ fp0 i) ∨ H0 b = none := fun b z => by
    by_cases hx : ∃ i, b ∈ fp0 i
    · exact .inl hx
    · cases e : H0 b with
      | none => exact .inr rfl
      | some o => (rw [a.st.keep b o e fun i hi => hx ⟨i, hi⟩] at z; cases z)
  have kept : ∀ b, H b ≠ none → b ∉ f → H2 b = H b := fun b z n => by
    cases e : H b with
    | none => exact absurd e z
    | some o => exact st.keep b o e fun k hk => n (hA k b hk)
  have fpf : ∀ i b, b ∈ fp i → b ∉ f := fun i b h q => a.tmp.dj i b q h
  refine ⟨⟨fun b h => st.sub b (a.st.sub b h), fun b o h n => ?_, fun b h => ?_, a.st.newO⟩, ⟨a.sto.len, fun i r e => ?_, a.sto.nd, a.sto.dj, fun i b h => ⟨fun z => ?_, ?_⟩, fr2, Js.m st.sub (fun b hb => by rw [kept b (a.sto.fr b hb) fun q => (a.tmp.out b q).1 hb]) a.sto.j⟩, ⟨nd, fun i b h q => ?_, og⟩, fun b h => ?_⟩
  · have e := a.st.keep b o h n
    rw [kept b (by rw [e]; simp) (fun q => (a.src b q).elim (fun ⟨i, hi⟩ => n i hi) fun z => by rw [h] at z; cases z)]
    exact e
  · rcases st.new b h with h | ⟨k, h⟩ | h | ⟨xs, h⟩
    · exact a.st.new b h
    · exact (a.src b (hA k b h)).elim (fun q => .inr (.inl q)) fun q => .inr (.inr (.inl q))
    · exact (none0 b h).elim (fun q => .inr (.inl q)) fun q => .inr (.inr (.inl q))
    · by_cases hx : ∃ i, b ∈ fp0 i
      · exact .inr (.inl hx)
      · cases e : H0 b with
        | none => exact .inr (.inr (.inl rfl))
        | some o =>
          rw [a.st.keep b o e fun i hi => hx ⟨i, hi⟩] at h
          exact .inr (.inr (.inr ⟨xs, h⟩))
  · obtain ⟨v, e1, q⟩ := a.sto.sl i r e
    exact ⟨v, e1, q.mono st.sub (fun b hb => by rw [kept b (a.sto.fr b hb) fun q => (a.tmp.out b q).1 hb]) fun b hb => kept b (a.sto.out i b hb).2.1 (fpf i b hb)⟩
  · rcases st.new b z with z | ⟨k, z⟩ | z | ⟨xs, z⟩
    · exact (a.sto.out i b h).1 z
    · exact fpf i b h (hA k b z)
    · exact (a.sto.out i b h).2.1 z
    · exact (a.sto.out i b h).2.2 xs z
  · exact (a.sto.out i b h).2.of (kept b (a.sto.out i b h).2.1 (fpf i b h))
  · rcases sg b h with ⟨k, z⟩ | z
    · exact fpf i b q (hA k b z)
    · exact (a.sto.out i b q).2.1 z
  · rcases sg b h with ⟨k, z⟩ | z
    · exact a.src b (hA k b z)
    · exact none0 b z

theorem flat_nd {O : Nat → List Addr} (nO : ∀ j, (O j).Nodup) (dO : ∀ i j b, b ∈ O i → b ∈ O j → i = j) : ∀ {l : List Nat}, l.Nodup → (l.flatMap O).Nodup
  | [], _ => by simp
  | k :: l, h => by
    rw [List.flatMap_cons]
    obtain ⟨h1, h2⟩ := List.nodup_cons.mp h
    refine List.nodup_append.mpr ⟨nO k, flat_nd nO dO h2, fun b hb x hx e => ?_⟩
    subst e
    obtain ⟨j, hj, hbj⟩ := List.mem_flatMap.mp hx
    have := dO k j b hb hbj
    subst this
    exact h1 hj
theorem set_same {i : Nat} {v : V} (h : σ[i]? = some (some v)) : σ.set i (some v) = σ := by
  obtain ⟨hi, e⟩ := List.getElem?_eq_some_iff.mp h
  rw [← e]; exact List.set_getElem_self hi
theorem giveA_ok : ∀ {as : List Arg} {vs : List V} {f : List Addr} {rs : List R} {os : Env} {ρ ρ' : Env} {fp : Nat → List Addr} {O : Nat → List Addr} {t : List Addr}, Aft Js G F0 fp0 H0 ρ σ F fp H t → RlAs G σ as ρ1 vs F1 H1 f →
    (∀ j r, getI os j = some r → ∃ v, vs[j]? = some v ∧ SlR G F H r v (O j)) → (∀ j, (O j).Nodup) → (∀ i j b, b ∈ O i → b ∈ O j → i = j) → (∀ j b, j < as.length → b ∈ O j → b ∈ t) → g.Nodup → (∀ b, b ∈ g → b ∈ t ∧ ∀ j, b ∉ O j) →
    giveA as rs os ρ = some ρ' → ∃ fp', Aft Js G F0 fp0 H0 ρ' σ F fp' H g
  | [], _, f, rs, os, ρ, ρ', fp, O, t, a, _, _, _, _, _, ng, mg, e => by
    simp only [giveA, Option.some.injEq] at e
    subst e
    exact ⟨fp, a.tsub ng fun b h => (mg b h).1⟩
  | x :: as, _, f, rs, os, ρ, ρ', fp, O, t, a, h, ho, nO, dO, mO, ng, mg, e => by
    obtain ⟨v, ws, f1, f2, rfl, rfl, h1, h2⟩ := h
    have ho' : ∀ j r, getI os.tail j = some r → ∃ v, ws[j]? = some v ∧ SlR G F H r v (O (j + 1)) := fun j r q => by
      have : getI os (j + 1) = some r := by
        cases os with
        | nil => simp [getI] at q
        | cons o os => simpa [getI] using q
      obtain ⟨u, e1, e2⟩ := ho (j + 1) r this
      exact ⟨u, by simpa using e1, e2⟩
    have rec_ : ∀ {ρ3 : Env} {fp3 : Nat → List Addr} {t3 : List Addr} {rs3 : List R}, Aft Js G F0 fp0 H0 ρ3 σ F fp3 H t3 → (∀ j b, j < as.length → b ∈ O (j + 1) → b ∈ t3) → (∀ b, b ∈ g → b ∈ t3) → giveA as rs3 os.tail ρ3 = some ρ' → ∃ fp', Aft Js G F0 fp0 H0 ρ' σ F fp' H g :=
      fun a3 m1 m2 e3 => giveA_ok (O := fun j => O (j + 1)) a3 h2 ho' (fun j => nO (j + 1)) (fun i j b p q => by have := dO (i + 1) (j + 1) b p q; omega) m1 ng (fun b hb => ⟨m2 b hb, fun j => (mg b hb).2 (j + 1)⟩) e3
    cases x with
    | r x =>
      simp only [giveA] at e
      exact rec_ a (fun j b hj hb => mO (j + 1) b (by simp; omega) hb) (fun b hb => (mg b hb).1) e
    | p i fs =>
      obtain ⟨rfl, rfl, hv⟩ := h1
      cases rs with
      | nil => simp only [giveA] at e; cases e
      | cons r rs =>
        cases os with
        | nil => simp only [giveA] at e; cases e
        | cons o os =>
          simp only [giveA] at e
          by_cases hd : isD r = true
          · rw [if_pos hd] at e
            exact rec_ a (fun j b hj hb => mO (j + 1) b (by simp; omega) hb) (fun b hb => (mg b hb).1) e
          · rw [if_neg hd] at e
            cases o with
            | none => cases e
            | some q =>
              obtain ⟨u, e1, qs⟩ := ho 0 q (by simp [getI])
              simp at e1
              subst e1
              have hi : i < ρ.length := by rw [a.sto.len]; exact (List.getElem?_eq_some_iff.mp hv).1
              have a3 := a.storeG (g := t.filter fun b => decide (b ∉ O 0)) qs (fun b hb => mO 0 b (by simp) hb) (nO 0) hi (a.tmp.nd.filter _) (fun b hb => by
                have := List.mem_filter.mp hb
                exact ⟨this.1, by simpa using this.2⟩) (by rw [set_same hv]; exact a.sto.j)
              rw [set_same hv] at a3
              refine rec_ a3 (fun j b hj hb => List.mem_filter.mpr ⟨mO (j + 1) b (by simp; omega) hb, ?_⟩) (fun b hb => List.mem_filter.mpr ⟨(mg b hb).1, ?_⟩) e
              · simpa using fun z => by have := dO (j + 1) 0 b hb z; omega
              · simpa using (mg b hb).2 0
end

/-- the promise of a def, by the language: at level n -/
def spN (G : Gs) (cn : List R → Option (Rs R × List (Option R))) (np : Nat) : Sp := fun vs H Q E =>
  ∃ F rs fp res, Sto JT G F (rs.map some) (vs.map some) H fp ∧ rs.length = np ∧ cn rs = some res ∧ Post JT G (fun cls d _ H => E cls d H) (RlV G) F fp H (vs.map some) res Q

section
variable {Js : SP} {G : Gs} {W : WX} {X : Cx}
/-- what a call does -/
theorem call_ok {σ : L2.St} {F F0 : Addr → Prop} {fp fp0 : Nat → List Addr} {H H0 : Hp} {ρ ρ1 : Env} {f : List Addr} {as : List Arg} {vs : List V} {cf : String → List R → Option (Rs R × List (Option R))} {nm : String} {np : Nat} {res : Rs R × Env} {Q : VK}
    (af : Aft Js G F0 fp0 H0 ρ σ F fp H f) (rl : RlAs G σ as ρ1 vs F H f) (e : callM cf nm as ρ = some res) (hnp : as.length = np) (p : Post Js G W (RlV G) F0 fp0 H0 σ res Q) :
    spN G (cf nm) np vs H Q (WE W σ) := by
  unfold callM at e
  cases ht : takeA as ρ with
  | none => rw [ht] at e; cases e
  | some q =>
    obtain ⟨rs, ρ2⟩ := q
    rw [ht] at e
    dsimp only at e
    cases hc : cf nm rs with
    | none => rw [hc] at e; cases e
    | some q =>
      obtain ⟨r, outs⟩ := q
      rw [hc] at e
      dsimp only at e
      cases hg : giveA as rs outs ρ2 with
      | none => rw [hg] at e; cases e
      | some ρ3 =>
        rw [hg] at e
        simp only [Option.some.injEq] at e
        subst e
        obtain ⟨fp1, L, a1, s1⟩ := takeA_ok (g := []) (by simpa using af) rl ht
        rw [List.append_nil] at a1
        have hvs : as.length = vs.length := by
          clear ht hc hg a1 s1 af p hnp
          induction as generalizing vs f with
          | nil => rw [rl.1]; rfl
          | cons a as ih =>
            obtain ⟨v, ws, f1, f2, rfl, rfl, _, h⟩ := rl
            simp [ih h]
        refine ⟨F, rs, _, (r, outs), s1.sto a1.tmp a1.sto.fr, by rw [s1.length, ← hvs]; exact hnp, hc, ?_⟩
        have back : ∀ {F2 : Addr → Prop} {fp2 : Nat → List Addr} {H2 : Hp} {g : List Addr}, Aft JT G F (fun i => L.getD i []) H outs (vs.map some) F2 fp2 H2 g → ∃ fp', Aft Js G F0 fp0 H0 ρ3 σ F2 fp' H2 g := fun {F2 fp2 H2 g} c => by
          have hA : ∀ k b, b ∈ L.getD k [] → b ∈ L.flatten := fun k b h => (getD_mem h).2
          -- all that the arguments' places hold, and the value
          have nd : (((List.range as.length).flatMap fp2) ++ g).Nodup := by
            refine List.nodup_append.mpr ⟨?_, c.tmp.nd, fun b hb x hx e => ?_⟩
            · exact flat_nd c.sto.nd c.sto.dj List.nodup_range
            · subst e
              obtain ⟨k, _, hk⟩ := List.mem_flatMap.mp hb
              exact c.tmp.dj k b hx hk
          have a2 := a1.callee (g := ((List.range as.length).flatMap fp2) ++ g) hA c.st c.sto.fr nd (fun b hb => by
            rcases List.mem_append.mp hb with hb | hb
            · obtain ⟨k, _, hk⟩ := List.mem_flatMap.mp hb
              exact c.st.newO k b hk
            · exact c.src b hb) (fun b hb => by
            rcases List.mem_append.mp hb with hb | hb
            · obtain ⟨k, _, hk⟩ := List.mem_flatMap.mp hb
              exact c.sto.out k b hk
            · exact c.tmp.out b hb)
          refine giveA_ok (O := fp2) (g := g) a2 rl (fun j r hj => ?_) c.sto.nd c.sto.dj (fun j b hj hb => List.mem_append_left _ (List.mem_flatMap.mpr ⟨j, List.mem_range.mpr hj, hb⟩)) c.tmp.nd (fun b hb => ⟨List.mem_append_right _ hb, fun j hj => c.tmp.dj j b hb hj⟩) hg
          obtain ⟨v, e1, e2⟩ := c.sto.sl j r hj
          rw [List.getElem?_map] at e1
          cases q : vs[j]? with
          | none => rw [q] at e1; simp at e1
          | some u => rw [q] at e1; simp at e1; subst e1; exact ⟨u, rfl, e2⟩
        cases r with
        | ok r =>
          intro F2 fp2 H2 v g c rl2
          obtain ⟨fp', a3⟩ := back c
          exact p F2 fp' H2 v g a3 rl2
        | ex x =>
          intro F2 fp2 H2 cls d c xr
          obtain ⟨fp', a3⟩ := back c
          exact p F2 fp' H2 cls d a3 xr
theorem evs_len {c : Ctx} : ∀ {es : List E} {as : List Arg} {ρ ρ' : Env}, evs c es ρ = some (.ok as, ρ') → as.length = es.length
  | [], as, ρ, ρ', h => by
    simp only [evs, M.pure, Option.some.injEq, Prod.mk.injEq, Rs.ok.injEq] at h
    rw [← h.1]; rfl
  | e :: es, as, ρ, ρ', h => by
    simp only [evs, M.bind] at h
    cases h1 : argM e (ev c e) ρ with
    | none => rw [h1] at h; cases h
    | some q =>
      obtain ⟨r, ρ1⟩ := q
      rw [h1] at h
      cases r with
      | ex x => simp at h
      | ok a =>
        simp only at h
        cases h2 : evs c es ρ1 with
        | none => rw [h2] at h; cases h
        | some q =>
          obtain ⟨r, ρ2⟩ := q
          rw [h2] at h
          cases r with
          | ex x => simp at h
          | ok bs =>
            simp only [M.pure, Option.some.injEq, Prod.mk.injEq, Rs.ok.injEq] at h
            rw [← h.1, List.length_cons, List.length_cons, evs_len h2]
/-- f(e, ..) -/
theorem bw_call {c : Ctx} {nm : String} {es : List E} {np n : Nat} {f : Addr} {fd : FuncData} {ps : List Str} {x : Str} {p pos : Pos} {pe : Expr} {pes : List Expr}
    (tk : Takes X W) (FO : FnOk X.prog X.w X.K X.mg X.base (L2.CX X.prog X.w) n f fd ps (spN G (c.call nm) np)) (hr : Room n X.A) (hg : Gl X x) (hm : X.mg x = some (.ref f)) (hk : PySem.W.keepIn X.K (.ref f) = true) (hb : Binds X.K fd ps [])
    (hl : es.length = np) (ha : PA X (pe :: pes) (tM Js G W (RlAs G) (evs c es))) (hdb : (x == ("__debug__" : Str)) = false) (he : starEach (pe :: pes) X.env = (false, eval pe X.env) :: starEach pes X.env) (hpl : (backTo pos (starEach pes X.env)).any (·.1) = false) :
    PE X (.Call (.Name x p) (pe :: pes) [] pos) (tE Js G W (ev c (.call nm es))) := by
  refine PE.weak (pe_callSD (E := WE W) FO hr hg hm hk hb .nil (fun σ => passAt tk σ) ha hdb he hpl) fun σ H Q q => ?_
  obtain ⟨F, ρ, fp, res, s, e, p'⟩ := q
  simp only [ev] at e
  refine bindO s e p'.exc0 fun as ρ1 em e1 F1 fp1 H1 vs f1 af rl => ?_
  rw [List.append_nil]
  exact call_ok af rl e1 ((evs_len em).trans hl) p'
end
end Mini
/-! Mini, part G: statements. -/
namespace Mini
open PySem L2

/-- the slots that keep their value -/
def Kp (fx : List Nat) (σ σ' : L2.St) : Prop := σ'.length = σ.length ∧ ∀ i, i ∈ fx → σ'[i]? = σ[i]?
theorem Kp.refl {fx : List Nat} {σ : L2.St} : Kp fx σ σ := ⟨rfl, fun _ _ => rfl⟩
theorem Kp.trans {fx : List Nat} {σ σ1 σ2 : L2.St} (a : Kp fx σ σ1) (b : Kp fx σ1 σ2) : Kp fx σ σ2 := ⟨b.1.trans a.1, fun i h => (b.2 i h).trans (a.2 i h)⟩
theorem Kp.weak {fx fy : List Nat} {σ σ' : L2.St} (a : Kp fx σ σ') (h : ∀ i, i ∈ fy → i ∈ fx) : Kp fy σ σ' := ⟨a.1, fun i q => a.2 i (h i q)⟩

/-- a wish for exceptions that is had wherever the kept slots are the same -/
def Keeps (fx : List Nat) (W : WX) : Prop := ∀ cls d σ σ' H, Kp fx σ σ' → W cls d σ' H → W cls d σ H

/-- what is known of the slots stays where the kept ones do -/
def JK (Js : SP) (fx : List Nat) : Prop := ∀ σ σ' F H, Kp fx σ σ' → Js.p σ F H → Js.p σ' F H
theorem JK.weak {Js : SP} {fx fy : List Nat} (h : JK Js fx) (w : ∀ i, i ∈ fx → i ∈ fy) : JK Js fy := fun σ σ' F H k => h σ σ' F H (k.weak w)
theorem JK.T {fx : List Nat} : JK JT fx := fun _ _ _ _ _ _ => trivial
/-- how a statement's run ends -/
def PostS (Js : SP) (G : Gs) (W : WX) (fx : List Nat) (F : Addr → Prop) (fp : Nat → List Addr) (H : Hp) (σ : L2.St) (res : Rs Fl × Env) (D : Ends) : Prop :=
  match res with
  | (.ok .nx, ρ') => ∀ F' fp' H' σ', Aft Js G F fp H ρ' σ' F' fp' H' [] → Kp fx σ σ' → D.nx σ' H'
  | (.ok .bk, ρ') => ∀ F' fp' H' σ', Aft Js G F fp H ρ' σ' F' fp' H' [] → Kp fx σ σ' → D.bk σ' H'
  | (.ok .ct, ρ') => ∀ F' fp' H' σ', Aft Js G F fp H ρ' σ' F' fp' H' [] → Kp fx σ σ' → D.ct σ' H'
  | (.ok (.rt r), ρ') => ∀ F' fp' H' σ' v f, Aft Js G F fp H ρ' σ' F' fp' H' f → Kp fx σ σ' → SlR G F' H' r v f → D.rt v H'
  | (.ex x, ρ') => ∀ F' fp' H' σ' cls d, Aft Js G F fp H ρ' σ' F' fp' H' [] → Kp fx σ σ' → XRel G F' H' x cls d → W cls d σ' H'
def tS (Js : SP) (G : Gs) (W : WX) (fx : List Nat) (m : M Fl) : TS := fun D σ H => ∃ F ρ fp res, Sto Js G F ρ σ H fp ∧ m ρ = some res ∧ PostS Js G W fx F fp H σ res D

section
variable {Js : SP} {G : Gs} {W : WX} {fx : List Nat} {F F1 : Addr → Prop} {fp fp1 : Nat → List Addr} {H H1 : Hp} {ρ ρ1 : Env} {σ σ1 : L2.St} {f : List Addr} {res : Rs Fl × Env} {D : Ends}
/-- an expression ahead: σ stays -/
theorem PostS.exc (p : PostS Js G W fx F fp H σ res D) (a : Aft Js G F fp H ρ1 σ F1 fp1 H1 f) : Exc Js G W F1 fp1 H1 σ res := fun x ρ' e F' fp' H' cls d af rl => by
  subst e
  exact p F' fp' H' σ cls d (a.trans af) .refl rl
theorem PostS.exc0 (p : PostS Js G W fx F fp H σ res D) : Exc Js G W F fp H σ res := fun x ρ' e F' fp' H' cls d af rl => by
  subst e
  exact p F' fp' H' σ cls d af .refl rl
theorem PostS.rest (p : PostS Js G W fx F fp H σ res D) (a : Aft Js G F fp H ρ1 σ1 F1 fp1 H1 f) (k : Kp fx σ σ1) : PostS Js G W fx F1 fp1 H1 σ1 res D := by
  obtain ⟨r, ρ'⟩ := res
  cases r with
  | ex x => exact fun F' fp' H' σ' cls d af k2 rl => p F' fp' H' σ' cls d (a.trans af) (k.trans k2) rl
  | ok fl =>
    cases fl with
    | nx => exact fun F' fp' H' σ' af k2 => p F' fp' H' σ' (a.trans af) (k.trans k2)
    | bk => exact fun F' fp' H' σ' af k2 => p F' fp' H' σ' (a.trans af) (k.trans k2)
    | ct => exact fun F' fp' H' σ' af k2 => p F' fp' H' σ' (a.trans af) (k.trans k2)
    | rt r => exact fun F' fp' H' σ' v f af k2 rl => p F' fp' H' σ' v f (a.trans af) (k.trans k2) rl
theorem tS.of {m : M Fl} (s : Sto Js G F ρ σ H fp) (e : m ρ = some res) (p : PostS Js G W fx F fp H σ res D) : tS Js G W fx m D σ H := ⟨F, ρ, fp, res, s, e, p⟩

variable {X : Cx} {c : Ctx}
theorem bs_nil : PSs X [] (tS Js G W fx (exs c [])) := PSs.weak pss_nil fun D σ H ⟨F, ρ, fp, res, s, e, p⟩ => by
  simp only [exs, M.pure, Option.some.injEq] at e
  subst e
  exact p F fp H σ (.refl s) .refl
theorem bs_cons {ps : Stmt} {pr : List Stmt} {s : S} {r : List S} (h1 : PS X ps (tS Js G W fx (ex c s))) (h2 : PSs X pr (tS Js G W fx (exs c r))) : PSs X (ps :: pr) (tS Js G W fx (exs c (s :: r))) := by
  refine PSs.weak (pss_cons h1 h2) fun D σ H ⟨F, ρ, fp, res, s0, e, p⟩ => ?_
  simp only [exs, M.bind] at e
  cases e1 : ex c s ρ with
  | none => rw [e1] at e; cases e
  | some q =>
    obtain ⟨r1, ρ1⟩ := q
    rw [e1] at e
    refine tS.of s0 e1 ?_
    cases r1 with
    | ex x =>
      simp only [Option.some.injEq] at e
      subst e
      exact p
    | ok fl =>
      cases fl with
      | nx => exact fun F' fp' H' σ' af k => tS.of af.sto e (p.rest af k)
      | bk => simp only [M.pure, Option.some.injEq] at e; subst e; exact p
      | ct => simp only [M.pure, Option.some.injEq] at e; subst e; exact p
      | rt r => simp only [M.pure, Option.some.injEq] at e; subst e; exact p
theorem bs_pass {pos : Pos} : PS X (.Pass pos) (tS Js G W fx (ex c .pass)) := PS.weak ps_pass fun D σ H ⟨F, ρ, fp, res, s, e, p⟩ => by
  simp only [ex, M.pure, Option.some.injEq] at e
  subst e
  exact p F fp H σ (.refl s) .refl
theorem bs_brk {pos : Pos} : PS X (.Break pos) (tS Js G W fx (ex c .brk)) := PS.weak ps_break fun D σ H ⟨F, ρ, fp, res, s, e, p⟩ => by
  simp only [ex, M.pure, Option.some.injEq] at e
  subst e
  exact p F fp H σ (.refl s) .refl
theorem bs_cnt {pos : Pos} : PS X (.Continue pos) (tS Js G W fx (ex c .cnt)) := PS.weak ps_continue fun D σ H ⟨F, ρ, fp, res, s, e, p⟩ => by
  simp only [ex, M.pure, Option.some.injEq] at e
  subst e
  exact p F fp H σ (.refl s) .refl
theorem bs_expr {pe : Expr} {pos : Pos} {e : E} (h : PE X pe (tE Js G W (ev c e))) (hs : swapsWith pe none pos.line X.env = pure false) : PS X (.Expr pe pos) (tS Js G W fx (ex c (.expr e))) := by
  refine PS.weak (ps_expr h hs) fun D σ H ⟨F, ρ, fp, res, s, e, p⟩ => ?_
  simp only [ex] at e
  refine bindO s e p.exc0 fun a ρ1 em e1 F1 fp1 H1 v f af rl => ?_
  simp only [M.pure, Option.some.injEq] at e1
  subst e1
  exact p F1 fp1 H1 σ af.drop .refl
theorem bs_ret {pe : Expr} {pos : Pos} {e : E} (h : PE X pe (tE Js G W (ev c e))) : PS X (.Return (some pe) pos) (tS Js G W fx (ex c (.ret e))) := by
  refine PS.weak (ps_ret h) fun D σ H ⟨F, ρ, fp, res, s, e, p⟩ => ?_
  simp only [ex] at e
  refine bindO s e p.exc0 fun a ρ1 em e1 F1 fp1 H1 v f af rl => ?_
  simp only [M.pure, Option.some.injEq] at e1
  subst e1
  exact p F1 fp1 H1 σ v f af .refl rl
theorem bs_ret0 {pos : Pos} : PS X (.Return none pos) (tS Js G W fx (ex c (.ret (.con .non)))) := PS.weak ps_retN fun D σ H ⟨F, ρ, fp, res, s, e, p⟩ => by
  simp only [ex, ev, M.bind, M.pure, Option.some.injEq] at e
  subst e
  exact p F fp H σ .non [] (.refl s) .refl (by simp only [SlR, Rep]; exact ⟨trivial, trivial⟩)
theorem bs_ife {pt : Expr} {pa pb : List Stmt} {pos : Pos} {t : E} {a b : List S} (ht : PT X pt (tT Js G W (evt c t))) (ha : PSs X pa (tS Js G W fx (exs c a))) (hb : PSs X pb (tS Js G W fx (exs c b))) :
    PS X (.If pt pa pb pos) (tS Js G W fx (ex c (.ife t a b))) := by
  refine PS.weak (ps_if ht ha hb) fun D σ H ⟨F, ρ, fp, res, s, e, p⟩ => ?_
  simp only [ex] at e
  refine bindO s e p.exc0 fun tv ρ1 em e1 F1 fp1 H1 bv f af rl => ?_
  obtain ⟨rfl, rfl⟩ := rl
  cases tv with
  | true => exact tS.of af.sto (by simpa using e1) (p.rest af .refl)
  | false => exact tS.of af.sto (by simpa using e1) (p.rest af .refl)
theorem bs_whl {pt : Expr} {pb : List Stmt} {pos : Pos} {t : E} {b : List S} (hp : PassesOwn (model X.prog X.w) X.A X.env X.xe) (ht : PT X pt (tT Js G W (evt c t))) (hb : PSs X pb (tS Js G W fx (exs c b))) :
    PS X (.While pt pb [] pos) (tS Js G W fx (ex c (.whl t b))) := by
  refine PS.weak (ps_while hp ht hb) fun D σ H ⟨F, ρ, fp, res, s, e, p⟩ => ?_
  simp only [ex] at e
  refine ⟨fun m σ H => ∃ F ρ fp res, Sto Js G F ρ σ H fp ∧ whileF (evt c t) (exs c b) m ρ = some res ∧ PostS Js G W fx F fp H σ res D, ⟨c.fuel, F, ρ, fp, res, s, e, p⟩, ?_⟩
  rintro m σ H ⟨F, ρ, fp, res, s, e, p⟩
  cases m with
  | zero => simp only [whileF, M.fail] at e; cases e
  | succ m =>
    simp only [whileF] at e
    refine bindO s e p.exc0 fun tv ρ1 em e1 F1 fp1 H1 bv f af rl => ?_
    obtain ⟨rfl, rfl⟩ := rl
    cases tv with
    | false =>
      simp only [M.pure, Bool.false_eq_true, if_false, Option.some.injEq] at e1
      subst e1
      exact p F1 fp1 H1 σ af .refl
    | true =>
      simp only [if_true, M.bind] at e1
      rw [if_pos rfl]
      cases e2 : exs c b ρ1 with
      | none => rw [e2] at e1; cases e1
      | some q =>
        obtain ⟨r1, ρ2⟩ := q
        rw [e2] at e1
        have p1 := p.rest af .refl
        refine ⟨fun σ' H' => ∃ m', m' < m + 1 ∧ ∃ F ρ fp res, Sto Js G F ρ σ' H' fp ∧ whileF (evt c t) (exs c b) m' ρ = some res ∧ PostS Js G W fx F fp H' σ' res D, fun _ _ h => h, tS.of af.sto e2 ?_⟩
        cases r1 with
        | ex x => simp only [Option.some.injEq] at e1; subst e1; exact p1
        | ok fl =>
          cases fl with
          | nx => exact fun F' fp' H' σ' af2 k => ⟨m, Nat.lt_succ_self m, F', ρ2, fp', res, af2.sto, e1, p1.rest af2 k⟩
          | ct => exact fun F' fp' H' σ' af2 k => ⟨m, Nat.lt_succ_self m, F', ρ2, fp', res, af2.sto, e1, p1.rest af2 k⟩
          | bk => simp only [M.pure, Option.some.injEq] at e1; subst e1; exact p1
          | rt r => simp only [M.pure, Option.some.injEq] at e1; subst e1; exact p1

/-! ### targets -/
/-- but at the places is -/
def But (is : List Nat) (σ σ' : L2.St) : Prop := ∀ i, i ∉ is → σ'[i]? = σ[i]?
/-- what a target asks, by the language -/
def tG (Js : SP) (G : Gs) (c : Ctx) (t : T) : TG := fun v σ H Q => ∃ F0 fp0 H0 ρ F fp f r ρ', Aft Js G F0 fp0 H0 ρ σ F fp H f ∧ SlR G F H r v f ∧ bindT c t r ρ = some ρ' ∧
  ∀ F' fp' σ', Aft Js G F0 fp0 H0 ρ' σ' F' fp' H [] → (∀ b, F b → F' b) → Kp c.fx σ σ' → But (varsT t) σ σ' → Q σ' H
theorem PG.weak {X : Cx} {e : Expr} {t t' : TG} (h : PG X e t) (w : ∀ v σ H Q, t' v σ H Q → t v σ H Q) : PG X e t' :=
  ⟨fun pins s σ H v u Q I r q => h.run pins s σ H v u Q I r (w v σ H Q q)⟩
theorem bg_name {i : Nat} {x : Str} {pos : Pos} (hJ : JK Js c.fx) (hN : X.N.Nodup) (hi : X.N[i]? = some x) (hx : Loc X.env.scope x) (hf : X.fn x = true ∨ X.env.scope.names.lookup x = some .local) : PG X (.Name x pos) (tG Js G c (.v i)) := by
  refine PG.weak (pg_name hN hi hx hf) fun v σ H Q ⟨F0, fp0, H0, ρ, F, fp, f, r, ρ', a, h, e, q⟩ => ?_
  simp only [bindT, setSlot] at e
  by_cases hc : c.fx.contains i = true
  · rw [if_pos hc] at e; cases e
  · rw [if_neg hc] at e
    by_cases hi : i < ρ.length
    · rw [if_pos hi] at e
      simp only [Option.some.injEq] at e
      subst e
      have kp : Kp c.fx σ (σ.set i (some v)) := ⟨by simp, fun j hj => by
        have : j ≠ i := fun e => by subst e; exact hc (by simpa using hj)
        rw [List.getElem?_set_ne (Ne.symm this)]⟩
      refine q F _ _ (a.store h hi (hJ _ _ _ _ kp a.sto.j)) (fun _ h => h) kp fun j hj => ?_
      · have : j ≠ i := fun e => hj (by subst e; simp [varsT])
        rw [List.getElem?_set_ne (Ne.symm this)]
    · rw [if_neg hi] at e; cases e
def tGs (Js : SP) (G : Gs) (c : Ctx) (ts : List T) : TGs := fun vs σ H Q => ∃ F0 fp0 H0 ρ F fp ds ρ', Aft Js G F0 fp0 H0 ρ σ F fp H [] ∧ Reps G F H ds vs ∧ bindTs c ts ds ρ = some ρ' ∧
  ∀ F' fp' σ', Aft Js G F0 fp0 H0 ρ' σ' F' fp' H [] → (∀ b, F b → F' b) → Kp c.fx σ σ' → But (varsTs ts) σ σ' → Q σ' H
theorem PGs.weak {X : Cx} {e : List Expr} {t t' : TGs} (h : PGs X e t) (w : ∀ v σ H Q, t' v σ H Q → t v σ H Q) : PGs X e t' :=
  ⟨fun pins s σ H v u Q I r q => h.run pins s σ H v u Q I r (w v σ H Q q)⟩
theorem PG.or {X : Cx} {e : Expr} {t t' : TG} (h : PG X e t) (h' : PG X e t') : PG X e (fun v σ H Q => t v σ H Q ∨ t' v σ H Q) :=
  ⟨fun pins s σ H v u Q I r q => q.elim (h.run pins s σ H v u Q I r) (h'.run pins s σ H v u Q I r)⟩
theorem bgs_nil : PGs X [] (tGs Js G c []) := by
  refine PGs.weak pgs_nil fun vs σ H Q ⟨F0, fp0, H0, ρ, F, fp, ds, ρ', a, r, e, q⟩ => ?_
  simp only [bindTs] at e
  cases ds with
  | cons d ds => simp at e
  | nil =>
    simp only [List.isEmpty_nil, if_true, Option.some.injEq] at e
    subst e
    simp only [Reps] at r
    exact ⟨r, q F fp σ a (fun _ h => h) .refl fun _ _ => rfl⟩
theorem bgs_cons {e : Expr} {es : List Expr} {t : T} {ts : List T} (h1 : PG X e (tG Js G c t)) (h2 : PGs X es (tGs Js G c ts))
    (hs : (assignEach (e :: es) X.env).map (·.2) = assign e X.env :: (assignEach es X.env).map (·.2)) : PGs X (e :: es) (tGs Js G c (t :: ts)) := by
  refine PGs.weak (pgs_cons h1 h2 hs) fun vs σ H Q ⟨F0, fp0, H0, ρ, F, fp, ds, ρ', a, r, e, q⟩ => ?_
  simp only [bindTs] at e
  cases ds with
  | nil => cases e
  | cons d ds =>
    simp only [Reps] at r
    obtain ⟨v, ws, rfl, r1, r2⟩ := r
    simp only at e
    cases e1 : bindT c t (.d d) ρ with
    | none => rw [e1] at e; cases e
    | some ρ1 =>
      rw [e1] at e
      refine ⟨v, ws, rfl, F0, fp0, H0, ρ, F, fp, [], .d d, ρ1, a, by simp only [SlR]; exact ⟨trivial, r1⟩, e1, fun F1 fp1 σ1 a1 sub k1 b1 => ?_⟩
      exact ⟨F0, fp0, H0, ρ1, F1, fp1, ds, ρ', a1, r2.mono sub fun _ _ => rfl, e, fun F' fp' σ' a2 sub2 k2 b2 => q F' fp' σ' a2 (fun b h => sub2 b (sub b h)) (k1.trans k2) fun i hi => by
        simp only [varsTs, List.mem_append, not_or] at hi
        rw [b2 i hi.2, b1 i hi.1]⟩
theorem bg_tup {es : List Expr} {ts : List T} {k : Nat} {pos : Pos} {A : Adr} (hG : G = ⟨X.K, A.ca, A.fa⟩) (hc : X.calm = true) (h : PGs X es (tGs Js G c ts)) (hl : es.length = ts.length)
    (hn : (assignEach es X.env).length = es.length) (hst : (assignEach es X.env).findIdx? (·.1) = none) : PG X (.Tuple es k pos) (tG Js G c (.t ts)) := by
  subst hG
  refine PG.weak (PG.or (pg_tup hc h rfl hst) (pg_lst hc h rfl hst)) fun v σ H Q ⟨F0, fp0, H0, ρ, F, fp, f, r, ρ', a, hr, e, q⟩ => ?_
  have bl : ∀ {ts : List T} {ds : List D} {ρ ρ' : Env}, bindTs c ts ds ρ = some ρ' → ds.length = ts.length := by
    intro ts
    induction ts with
    | nil => intro ds ρ ρ' h; cases ds with
      | nil => rfl
      | cons d ds => simp [bindTs] at h
    | cons t ts ih => intro ds ρ ρ' h; cases ds with
      | nil => simp [bindTs] at h
      | cons d ds =>
        simp only [bindTs] at h
        cases h1 : bindT c t (.d d) ρ with
        | none => rw [h1] at h; cases h
        | some ρ1 => rw [h1] at h; simp [ih h]
  have rep := a.frzRep hr
  have a' := a.frz
  simp only [bindT] at e
  cases hz : r.frz with
  | tup ds =>
    rw [hz] at e rep
    simp only [Rep] at rep
    obtain ⟨p, vs, e1, at_, rs⟩ := rep
    refine .inl ⟨p, vs, e1, ?_, by rw [hn, hl, ← bl e, rs.length], F0, fp0, H0, ρ, _, fp, ds, ρ', a', rs, e, fun F' fp' σ' a2 sub k2 b2 => q F' fp' σ' a2 (fun b h => sub b (.inl h)) k2 (by simpa only [varsT] using b2)⟩
    rcases at_ with ⟨_, at_⟩ | at_
    · exact .inl (.inl at_)
    · exact at_.elim
  | lst ds =>
    rw [hz] at e rep
    simp only [Rep] at rep
    obtain ⟨p, vs, e1, at_, rs⟩ := rep
    refine .inr ⟨p, vs, e1, ?_, by rw [hn, hl, ← bl e, rs.length], F0, fp0, H0, ρ, _, fp, ds, ρ', a', rs, e, fun F' fp' σ' a2 sub k2 b2 => q F' fp' σ' a2 (fun b h => sub b (.inl h)) k2 (by simpa only [varsT] using b2)⟩
    rcases at_ with ⟨_, at_⟩ | at_
    · exact .inl (st1_lst.mp at_)
    · exact .inr at_
  | _ => rw [hz] at e; cases e
theorem bs_asg {ptg pe : Expr} {pos : Pos} {t : T} {e : E} (he : PE X pe (tE Js G W (ev c e))) (hg : PG X ptg (tG Js G c t)) (hs : swapsWithSole [ptg] pe pos.line X.env = pure false) (hw : swappedStores [ptg] pe X.env = pure none)
    (h1 : (assignEach [ptg] X.env).map (·.2) = [assign ptg X.env]) : PS X (.Assign [ptg] pe pos) (tS Js G W c.fx (ex c (.asg t e))) := by
  refine PS.weak (ps_asg he hg hs hw h1) fun D σ H ⟨F, ρ, fp, res, s, e, p⟩ => ?_
  simp only [ex] at e
  refine bindO s e p.exc0 fun a ρ1 em e1 F1 fp1 H1 v f af rl => ?_
  cases e2 : bindT c t a ρ1 with
  | none => rw [e2] at e1; cases e1
  | some ρ2 =>
    rw [e2] at e1
    simp only [Option.some.injEq] at e1
    subst e1
    exact ⟨F, fp, H, ρ1, F1, fp1, f, a, ρ2, af, rl, e2, fun F' fp' σ' a2 _ k _ => p F' fp' H1 σ' a2 k⟩
theorem set_imp {i : Nat} {e : E} {D : L2.Ends} {σ : L2.St} {H : Hp} (hJ : JK Js c.fx) (h : tS Js G W c.fx (ex c (.asg (.v i) e)) D σ H) : tAsg (tE Js G W (ev c e)) (gName i) D σ H := by
  obtain ⟨F, ρ, fp, res, s, e, p⟩ := h
  simp only [ex] at e
  refine bindO s e p.exc0 fun a ρ1 em e1 F1 fp1 H1 v f af rl => ?_
  simp only [bindT, setSlot] at e1
  by_cases hc : c.fx.contains i = true
  · rw [if_pos hc] at e1; cases e1
  · rw [if_neg hc] at e1
    by_cases hi : i < ρ1.length
    · rw [if_pos hi] at e1
      simp only [Option.some.injEq] at e1
      subst e1
      have kp : Kp c.fx σ (σ.set i (some v)) := ⟨by simp, fun j hj => by
        have : j ≠ i := fun e => by subst e; exact hc (by simpa using hj)
        rw [List.getElem?_set_ne (Ne.symm this)]⟩
      exact p F1 _ H1 _ (af.store rl hi (hJ _ _ _ _ kp af.sto.j)) kp
    · rw [if_neg hi] at e1; cases e1
theorem bs_setN {i : Nat} {x : Str} {pe : Expr} {pos pos' : Pos} {e : E} (hJ : JK Js c.fx) (hN : X.N.Nodup) (hi : X.N[i]? = some x) (hx : Loc X.env.scope x) (hf : X.fn x = true ∨ X.env.scope.names.lookup x = some .local) (he : PE X pe (tE Js G W (ev c e))) (hs : swapsWith pe (some (.Name x pos')) pos.line X.env = pure false) :
    PS X (.Assign [.Name x pos'] pe pos) (tS Js G W c.fx (ex c (.asg (.v i) e))) := PS.weak (ps_set hN hi hx he hs hf) fun D σ H h => set_imp hJ h
end
end Mini
/-! Mini, part H: what a for walks; for. -/
namespace Mini
open PySem L2

/-- how an iterator yields the data, wherever the heap went meanwhile -/
def Ylds (G : Gs) (J : It) (F : Addr → Prop) (H : Hp) (g : List Addr) (ds : List D) : Prop :=
  ∀ F2 H2, (∀ b, F b → F2 b) → (∀ b, F b → st1 (H2 b) = st1 (H b)) → (∀ b, b ∈ g → H2 b = H b) → (∀ b, F2 b → H2 b ≠ none) →
    ∀ i, (ds.length ≤ i → J.stop i H2) ∧ ∀ d, ds[i]? = some d → J.go i H2 ∧ ∀ x H3, J.yld i H2 x H3 → ∃ F3, Grow F2 H2 F3 H3 [] ∧ Rep G F3 H3 d x
def RlW (G : Gs) : L2.St → (List D × Option (Nat × D)) → Env → It → (Addr → Prop) → Hp → List Addr → Prop := fun σ p ρ J F H f =>
  (∃ g, (∀ b, b ∈ g → b ∈ f ∨ F b) ∧ Ylds G J F H g p.1) ∧ ∀ i x, p.2 = some (i, x) → ∃ a, σ[i]? = some (some (.ref a)) ∧ f = [a] ∧ OwnAt G F H a x
abbrev tW (Js : SP) (G : Gs) (W : WX) (m : M (List D × Option (Nat × D))) : TI := tM Js G W (RlW G) m

section
variable {Js : SP} {G : Gs} {W : WX} {X : Cx} {F : Addr → Prop} {H : Hp} {A : Adr}
theorem ylds_list {a : Addr} {ds : List D} {vs : List V} {g : List Addr} (hs : ∀ (F2 : Addr → Prop) (H2 : Hp), (∀ b, F b → F2 b) → (∀ b, F b → st1 (H2 b) = st1 (H b)) → (∀ b, b ∈ g → H2 b = H b) → SqL G.K H2 a vs) (hr : Reps G F H ds vs) : Ylds G (Itl G.K a) F H g ds := by
  intro F2 H2 sub st ex al i
  have q := hs F2 H2 sub st ex
  refine ⟨fun h => ⟨vs, q, by rw [← hr.length]; exact h⟩, fun d hd => ?_⟩
  obtain ⟨v, hv, r⟩ := hr.get hd
  refine ⟨⟨vs, v, q, hv⟩, fun x H3 ⟨e, y⟩ => ?_⟩
  subst e
  have := y vs q
  rw [hv] at this
  cases this
  exact ⟨F2, .refl al, r.mono sub st⟩
theorem ylds_tup {a : Addr} {ds : List D} {vs : List V} {g : List Addr} (hs : ∀ (F2 : Addr → Prop) (H2 : Hp), (∀ b, F b → F2 b) → (∀ b, F b → st1 (H2 b) = st1 (H b)) → (∀ b, b ∈ g → H2 b = H b) → SqT G.K H2 a vs) (hr : Reps G F H ds vs) : Ylds G (Itt G.K a) F H g ds := by
  intro F2 H2 sub st ex al i
  have q := hs F2 H2 sub st ex
  refine ⟨fun h => ⟨vs, q, by rw [← hr.length]; exact h⟩, fun d hd => ?_⟩
  obtain ⟨v, hv, r⟩ := hr.get hd
  refine ⟨⟨vs, v, q, hv⟩, fun x H3 ⟨e, y⟩ => ?_⟩
  subst e
  have := y vs q
  rw [hv] at this
  cases this
  exact ⟨F2, .refl al, r.mono sub st⟩
theorem ylds_str {s : Cs} {g : List Addr} : Ylds G (Its (toS s)) F H g (s.map fun c => .str [c]) := by
  intro F2 H2 sub st ex al i
  refine ⟨fun h => by simpa [Its, toS] using h, fun d hd => ?_⟩
  rw [List.getElem?_map] at hd
  cases e : s[i]? with
  | none => rw [e] at hd; cases hd
  | some c =>
    rw [e] at hd
    simp only [Option.map_some, Option.some.injEq] at hd
    subst hd
    have hi : i < s.length := (List.getElem?_eq_some_iff.mp e).1
    refine ⟨by simpa [Its, toS] using hi, fun x H3 ⟨e2, c', hc, exx⟩ => ?_⟩
    subst e2
    have : c' = c := by
      have h1 : (toS s).cps[i]? = some c := by simpa [toS] using e
      rw [h1] at hc
      exact (Option.some.inj hc).symm
    subst this
    exact ⟨F2, .refl al, by simp only [Rep]; exact exx⟩
theorem ylds_range {lo : Int} {n : Nat} {g : List Addr} : Ylds G (Itr lo n) F H g (nums lo n) := by
  have len : ∀ (n : Nat) (lo : Int), (nums lo n).length = n := fun n => by
    induction n with
    | zero => intro lo; rfl
    | succ n ih => intro lo; simp [nums, ih]
  have get : ∀ (n : Nat) (lo : Int) (i : Nat), i < n → (nums lo n)[i]? = some (.int (lo + i)) := fun n => by
    induction n with
    | zero => intro lo i h; omega
    | succ n ih =>
      intro lo i h
      cases i with
      | zero => simp [nums]
      | succ i =>
        simp only [nums, List.getElem?_cons_succ]
        rw [ih (lo + 1) i (by omega)]
        congr 2
        omega
  intro F2 H2 sub st ex al i
  refine ⟨fun h => by rw [len] at h; exact h, fun d hd => ?_⟩
  have hi : i < n := by have := (List.getElem?_eq_some_iff.mp hd).1; rwa [len] at this
  rw [get n lo i hi] at hd
  cases hd
  refine ⟨hi, fun x H3 ⟨e, y⟩ => ?_⟩
  subst e
  exact ⟨F2, .refl al, by simp only [Rep]; exact y⟩

/-- whatever is walked: a list, a tuple, a text -/
def iAny (K : PySem.W.Frag) (te : TE) : TI := fun σ H R => te σ H fun x H1 =>
  (∃ a, x = .ref a ∧ (∃ xs, SqL K H1 a xs) ∧ R (Itl K a) H1) ∨ (∃ a, x = .ref a ∧ (∃ xs, SqT K H1 a xs) ∧ R (Itt K a) H1) ∨ (∃ s, x = .str s ∧ R (Its s) H1) ∨
  ∃ d o, x = .ref d ∧ ((∃ kvs, H1 d = some (.frz o (.dK kvs)) ∧ R (Itk d o kvs) H1) ∨ ∃ kvs, H1 d = some (.frz o (.dT kvs)) ∧ R (Itkt d o kvs) H1)
theorem pi_any {tg e : Expr} {te : TE} (he : PE X e te) : PI X tg e (iAny X.K te) := by
  refine ⟨fun pins s σ H R I h => ?_⟩
  refine thn (he.run pins s σ H _ I h) fun v s1 ⟨x, H1, I1, r1, q1⟩ => ?_
  rcases q1 with ⟨a, e, ⟨xs, hq⟩, q⟩ | ⟨a, e, ⟨xs, hq⟩, q⟩ | ⟨y, ex, q⟩ | ⟨d, o, ex, q⟩
  · subst e
    cases r1
    obtain ⟨its, rv, p, hz⟩ := I1.list hq
    refine PySem.wpAny_pyIter_list p.isList ?_
    refine ⟨s1.heap.objs.size, [s1.heap.objs.size], _, _, H1, rfl, I1.kept (t' := s1.toks) fun b o e => Heap.get?_push_of_some _ e, turn_list a _, ⟨_, Heap.get?_push_size _ rfl, rfl, rfl⟩, fun b hb => ?_, q⟩
    have e : b = s1.heap.objs.size := by simpa using hb
    subst e
    exact I1.fpOk (Nat.le_refl _) (I1.hok.fresh (Nat.le_refl _))
  · subst e
    cases r1
    obtain ⟨its, rv, p, hz⟩ := I1.tuple hq
    refine PySem.wpAny_pyIter_tuple (show s1.heap.IsTuple a its.toArray from p) ?_
    refine ⟨s1.heap.objs.size, [s1.heap.objs.size], _, _, H1, rfl, I1.kept (t' := s1.toks) fun b o e => Heap.get?_push_of_some _ e, turn_tuple a _, ⟨_, Heap.get?_push_size _ rfl, rfl, rfl⟩, fun b hb => ?_, q⟩
    have e : b = s1.heap.objs.size := by simpa using hb
    subst e
    exact I1.fpOk (Nat.le_refl _) (I1.hok.fresh (Nat.le_refl _))
  · subst ex
    obtain ⟨t, rfl⟩ := r1
    cases ha : y.cps.all (· < 128)
    · exact PySem.wpAny_pyIter_wide ha (pi_one (tk := s1.toks) I1 _ (turn_str _ y t "str_iterator" (.inr rfl)) ⟨_, Heap.get?_push_size _ rfl, rfl, rfl⟩ q)
    · exact PySem.wpAny_pyIter_ascii ha (pi_one (tk := s1.toks) I1 _ (turn_str _ y t "str_ascii_iterator" (.inl rfl)) ⟨_, Heap.get?_push_size _ rfl, rfl, rfl⟩ q)
  · subst ex
    obtain rfl : v = Value.ref d := r1
    rcases q with ⟨kvs, hd, q⟩ | ⟨kvs, hd, q⟩
    · obtain ⟨hs, hgd, hx, es, ep, vs, hdt, hsz, kv, hm⟩ := I1.frzK hd
      refine iter_keys hs hgd hx hdt (pi_one (tk := s1.toks) I1 _ (turn_keys _ hdt) ⟨_, Heap.get?_push_size _ rfl, rfl, ?_⟩ q)
      rw [hsz] <;> rfl
    · obtain ⟨hs, hgd, hx, es, ep, hdt, hsz, ent⟩ := I1.frzT hd
      refine iter_keys hs hgd hx hdt (pi_one (tk := s1.toks) I1 _ (turn_keysT _ hdt) ⟨_, Heap.get?_push_size _ rfl, rfl, ?_⟩ q)
      rw [hsz] <;> rfl
theorem PI.weak {tg e : Expr} {t t' : TI} (h : PI X tg e t) (w : ∀ σ H R, t' σ H R → t σ H R) : PI X tg e t' := ⟨fun pins s σ H R I q => h.run pins s σ H R I (w σ H R q)⟩
/-- data that are walked, no dict -/
theorem ylds_of {d : D} {v : V} {l : List D} (hG : G = ⟨X.K, A.ca, A.fa⟩) (r : Rep G F H d v) (e : itemsN d = some l) {R : It → Hp → Prop} (h : ∀ J, Ylds G J F H [] l → R J H) :
    (∃ a, v = .ref a ∧ (∃ xs, SqL X.K H a xs) ∧ R (Itl X.K a) H) ∨ (∃ a, v = .ref a ∧ (∃ xs, SqT X.K H a xs) ∧ R (Itt X.K a) H) ∨ (∃ s, v = .str s ∧ R (Its s) H) ∨
      ∃ d o, v = .ref d ∧ ((∃ kvs, H d = some (.frz o (.dK kvs)) ∧ R (Itk d o kvs) H) ∨ ∃ kvs, H d = some (.frz o (.dT kvs)) ∧ R (Itkt d o kvs) H) := by
  subst hG
  cases d with
  | lst ds =>
    simp only [itemsN, itemsD, Option.some.injEq] at e
    subst e
    simp only [Rep] at r
    obtain ⟨a, vs, rfl, p, rs⟩ := r
    have q : ∀ (F2 : Addr → Prop) (H2 : Hp), (∀ b, F b → F2 b) → (∀ b, F b → st1 (H2 b) = st1 (H b)) → (∀ b, b ∈ ([] : List Addr) → H2 b = H b) → SqL X.K H2 a vs := fun F2 H2 sub st _ => by
      rcases p with ⟨fa, p⟩ | p
      · exact .inl (st1_lst.mp ((st a fa).trans p))
      · exact .inr p
    exact .inl ⟨a, rfl, ⟨vs, q F H (fun _ h => h) (fun _ _ => rfl) fun _ _ => rfl⟩, h _ (ylds_list (G := ⟨X.K, A.ca, A.fa⟩) q rs)⟩
  | tup ds =>
    simp only [itemsN, itemsD, Option.some.injEq] at e
    subst e
    simp only [Rep] at r
    obtain ⟨a, vs, rfl, p, rs⟩ := r
    have q : ∀ (F2 : Addr → Prop) (H2 : Hp), (∀ b, F b → F2 b) → (∀ b, F b → st1 (H2 b) = st1 (H b)) → (∀ b, b ∈ ([] : List Addr) → H2 b = H b) → SqT X.K H2 a vs := fun F2 H2 sub st _ => by
      rcases p with ⟨fa, p⟩ | p
      · exact .inl (.inl (st1_tup.mp ((st a fa).trans (st1_tup.mpr p))))
      · exact p.elim
    exact .inr (.inl ⟨a, rfl, ⟨vs, q F H (fun _ h => h) (fun _ _ => rfl) fun _ _ => rfl⟩, h _ (ylds_tup (G := ⟨X.K, A.ca, A.fa⟩) q rs)⟩)
  | str s =>
    simp only [itemsN, itemsD, Option.some.injEq] at e
    subst e
    simp only [Rep] at r
    exact .inr (.inr (.inl ⟨toS s, r, h _ ylds_str⟩))
  | _ => simp [itemsN, itemsD] at e
theorem bw_walkV {tg pe : Expr} {c : Ctx} {e : E} (hG : G = ⟨X.K, A.ca, A.fa⟩) (hl : isLoc e = false) (hd : dicSrc e = false) (h : PE X pe (tE Js G W (ev c e))) : PI X tg pe (tW Js G W (walkS e (ev c e))) := by
  refine PI.weak (pi_any h) fun σ H R ⟨F, ρ, fp, res, s, em, p⟩ => ?_
  have e0 : walkS e (ev c e) = M.bind (ev c e) fun x => M.bind (M.opt (itemsN x.frz)) fun l => M.pure (l, none) := by
    cases e <;> first | rfl | (simp [isLoc] at hl; done) | (simp [dicSrc] at hd; done)
  rw [e0] at em
  refine bindO s em p.exc0 fun x ρ1 e1 e2 F1 fp1 H1 v f af rl => ?_
  simp only [M.bind, M.opt] at e2
  cases hi : itemsN x.frz with
  | none => rw [hi] at e2; cases e2
  | some l =>
    rw [hi] at e2
    simp only [M.pure, Option.some.injEq] at e2
    subst e2
    have rep := af.frzRep rl
    exact ylds_of (R := R) hG rep hi fun J y => p _ fp1 H1 J [] af.frz ⟨⟨[], fun _ h => by simp at h, y⟩, fun i x h => by cases h⟩
/-- a local, where it lies -/
theorem bw_walkL {tg : Expr} {i : Nat} {x : Str} {pos : Pos} {m : M R} (hG : G = ⟨X.K, A.ca, A.fa⟩) (hN : X.N[i]? = some x) (hv : Vis X.env.scope x) (hd : (x == ("__debug__" : Str)) = false) (hcd : (x == ("__classdict__" : Str)) = false) :
    PI X tg (.Name x pos) (tW Js G W (walkS (.loc i []) m)) := by
  refine PI.weak (pi_any (pe_var hN hv hd hcd)) fun σ H R ⟨F, ρ, fp, res, s, em, p⟩ => ?_
  simp only [walkS, lockL, getL] at em
  cases hr : getI ρ i with
  | none => rw [hr] at em; cases em
  | some r =>
    rw [hr] at em
    simp only [getP] at em
    cases r with
    | obj c fs => cases em
    | d x =>
      obtain ⟨v, ev, q⟩ := s.sl i _ hr
      simp only [SlR] at q
      refine ⟨v, ev, ?_⟩
      cases hi : itemsN x with
      | none => simp only [hi] at em; cases em
      | some l =>
        simp only [hi, Option.some.injEq] at em
        subst em
        exact ylds_of (R := R) hG q.2 hi fun J y => p F fp H J [] (.refl s) ⟨⟨[], fun _ h => by simp at h, y⟩, fun i x h => by cases h⟩
    | own x =>
      obtain ⟨v, ev, q, af⟩ := s.move hr
      refine ⟨v, ev, ?_⟩
      cases hi : itemsN x with
      | none => simp only [hi] at em; cases em
      | some l =>
        simp only [hi, Option.some.injEq] at em
        subst em
        simp only [SlR] at q
        obtain ⟨a, rfl, hf, o⟩ := q
        cases x with
        | lst ds =>
          simp only [itemsN, itemsD, Option.some.injEq] at hi
          subst hi
          obtain ⟨vs, hvs, rs⟩ := o
          refine .inl ⟨a, rfl, ⟨vs, .inl (.inl hvs)⟩, p F _ H _ (fp i) af ⟨⟨[a], fun b hb => .inl (by rw [hf]; exact hb), ?_⟩, fun j x h => ?_⟩⟩
          · subst hG
            exact ylds_list (G := ⟨X.K, A.ca, A.fa⟩) (fun F2 H2 _ _ ex => .inl (.inl ((ex a (by simp)).trans hvs))) rs
          · simp only [Option.some.injEq, Prod.mk.injEq] at h
            obtain ⟨rfl, rfl⟩ := h
            exact ⟨a, ev, hf, vs, hvs, rs⟩
        | dic kvs => simp [itemsN] at hi
        | _ => exact o.elim
end
end Mini
/-! Mini, part I: for over what is no dict. -/
namespace Mini
open PySem L2

section
variable {Js : SP} {G : Gs} {W : WX} {X : Cx} {F F0 : Addr → Prop} {fp fp0 : Nat → List Addr} {H H0 : Hp} {ρ ρ' : Env} {σ : L2.St} {f g : List Addr}

/-- beside what is held for the time -/
theorem Aft.with_ (a : Aft Js G F0 fp0 H0 ρ σ F fp H g) (t : Tmp F fp H f) (d : ∀ b, b ∈ f → b ∉ g) (src : ∀ b, b ∈ f → (∃ i, b ∈ fp0 i) ∨ H0 b = none) : Aft Js G F0 fp0 H0 ρ σ F fp H (f ++ g) :=
  ⟨a.st, a.sto, t.app a.tmp d, fun b h => (List.mem_append.mp h).elim (src b) (a.src b)⟩
/-- what was taken out is put back -/
theorem unlock_ok {tok : Option (Nat × D)} (a : Aft Js G F0 fp0 H0 ρ σ F fp H g) (t : Tmp F fp H f) (d : ∀ b, b ∈ f → b ∉ g) (src : ∀ b, b ∈ f → (∃ i, b ∈ fp0 i) ∨ H0 b = none)
    (ok : ∀ i x, tok = some (i, x) → ∃ p, σ[i]? = some (some (.ref p)) ∧ f = [p] ∧ OwnAt G F H p x) (e : unlockL tok ρ = some ρ') : ∃ fp', Aft Js G F0 fp0 H0 ρ' σ F fp' H g := by
  cases tok with
  | none =>
    simp only [unlockL, Option.some.injEq] at e
    subst e
    exact ⟨fp, a⟩
  | some q =>
    obtain ⟨i, x⟩ := q
    obtain ⟨p, hp, rfl, o⟩ := ok i x rfl
    simp only [unlockL] at e
    cases hi : ρ[i]? with
    | none => rw [hi] at e; cases e
    | some o' =>
      rw [hi] at e
      cases o' with
      | some r => cases e
      | none =>
        simp only [Option.some.injEq] at e
        subst e
        have a2 := (a.with_ t d src).storeG (i := i) (r := .own x) (v := .ref p) (f1 := [p]) (g := g) (by simp only [SlR]; exact ⟨p, rfl, rfl, o⟩) (fun b h => List.mem_append_left _ h) (by simp)
          (by exact (List.getElem?_eq_some_iff.mp hi).1) a.tmp.nd (fun b h => ⟨List.mem_append_right _ h, fun q => d b q h⟩) (by rw [set_same hp]; exact a.sto.j)
        rw [set_same hp] at a2
        exact ⟨_, a2⟩

theorem fixC_fx (c : Ctx) (e : E) : ∀ i, i ∈ c.fx → i ∈ (fixC c e).fx := fun i h => by
  cases e <;> first | exact h | (simp only [fixC]; exact List.mem_cons_of_mem _ h)

theorem for_of {c : Ctx} {t : T} {src : E} {b : List S} {wi : TI} {D : Ends} {σ0 : L2.St} {H0 : Hp} {F0 : Addr → Prop} {ρ0 : Env} {fp0 : Nat → List Addr} {res : Rs Fl × Env} (s0 : Sto Js G F0 ρ0 σ0 H0 fp0)
    (e : walkM (walkS src (ev c src)) (forF (fun d => bindT (fixC c src) t (.d d)) (exs (fixC c src) b)) ρ0 = some res) (p : PostS Js G W c.fx F0 fp0 H0 σ0 res D)
    (htok : ∀ ρ l i x ρ', walkS src (ev c src) ρ = some (.ok (l, some (i, x)), ρ') → i ∈ (fixC c src).fx) (hw : ∀ R, tW Js G W (walkS src (ev c src)) σ0 H0 R → wi σ0 H0 R) :
    tFor wi (tG Js G (fixC c src) t) (tS Js G W (fixC c src).fx (exs (fixC c src) b)) D σ0 H0 := by
  simp only [walkM] at e
  refine hw _ (bindO s0 e p.exc0 fun w ρ1 em e1 F1 fp1 H1 J f af rl => ?_)
  obtain ⟨l, tok⟩ := w
  obtain ⟨⟨g, hgf, yl⟩, htk⟩ := rl
  simp only at e1 htk yl
  cases er : forF (fun d => bindT (fixC c src) t (.d d)) (exs (fixC c src) b) l ρ1 with
  | none => rw [er] at e1; cases e1
  | some q =>
    obtain ⟨r, ρe⟩ := q
    rw [er] at e1
    simp only at e1
    cases eu : unlockL tok ρe with
    | none => rw [eu] at e1; cases e1
    | some ρ2 =>
      rw [eu] at e1
      simp only [Option.some.injEq] at e1
      subst e1
      -- what holds of the token at any later state
      have tokAt : ∀ {σ : L2.St} {F : Addr → Prop} {fp : Nat → List Addr} {H : Hp} , Kp (fixC c src).fx σ0 σ → (∀ b, F1 b → F b) → (∀ b, F1 b → st1 (H b) = st1 (H1 b)) → (∀ b, b ∈ f → H b = H1 b) →
          ∀ i x, tok = some (i, x) → ∃ p, σ[i]? = some (some (.ref p)) ∧ f = [p] ∧ OwnAt G F H p x := fun {σ F fp H} kp sub st ex i x et => by
        obtain ⟨a, ha, hf, o⟩ := htk i x et
        refine ⟨a, ?_, hf, o.mono sub st (ex a (by rw [hf]; simp))⟩
        rw [kp.2 i (by subst et; exact htok _ _ _ _ _ em)]
        exact ha
      refine ⟨fun i m σ H => m = l.length - i ∧ i ≤ l.length ∧ ∃ F ρ fp, Aft Js G F0 fp0 H0 ρ σ F fp H [] ∧ Tmp F fp H f ∧ (∀ b, F1 b → F b) ∧ (∀ b, F1 b → st1 (H b) = st1 (H1 b)) ∧ (∀ b, b ∈ f ∨ b ∈ g → H b = H1 b) ∧
          Kp (fixC c src).fx σ0 σ ∧ forF (fun d => bindT (fixC c src) t (.d d)) (exs (fixC c src) b) (l.drop i) ρ = some (r, ρe),
        ⟨l.length, rfl, Nat.zero_le _, F1, ρ1, fp1, af.drop, af.tmp, fun _ h => h, fun _ _ => rfl, fun _ _ => rfl, .refl, by simpa using er⟩, ?_⟩
      rintro i m σ H ⟨rfl, hil, F, ρ, fp, a, tm, sub, st, ex, kp, ef⟩
      have yi := yl F H sub st (fun b h => ex b (.inr h)) a.sto.fr i
      by_cases hlt : i < l.length
      · -- a turn
        refine .inr ?_
        obtain ⟨hgo, hy⟩ := yi.2 l[i] (List.getElem?_eq_getElem hlt)
        rw [List.drop_eq_getElem_cons hlt] at ef
        simp only [forF] at ef
        cases eb : bindT (fixC c src) t (.d l[i]) ρ with
        | none => rw [eb] at ef; cases ef
        | some ρa =>
          rw [eb] at ef
          simp only [M.bind] at ef
          cases ex1 : exs (fixC c src) b ρa with
          | none => rw [ex1] at ef; cases ef
          | some q =>
            obtain ⟨rb, ρb⟩ := q
            rw [ex1] at ef
            refine ⟨hgo, fun σ' H' => ∃ m', m' < l.length - i ∧ (m' = l.length - (i + 1) ∧ i + 1 ≤ l.length ∧ ∃ F ρ fp, Aft Js G F0 fp0 H0 ρ σ' F fp H' [] ∧ Tmp F fp H' f ∧ (∀ b, F1 b → F b) ∧ (∀ b, F1 b → st1 (H' b) = st1 (H1 b)) ∧ (∀ b, b ∈ f ∨ b ∈ g → H' b = H1 b) ∧
              Kp (fixC c src).fx σ0 σ' ∧ forF (fun d => bindT (fixC c src) t (.d d)) (exs (fixC c src) b) (l.drop (i + 1)) ρ = some (r, ρe)), fun σ' H' h => h, fun x H3 yx => ?_⟩
            obtain ⟨F3, gr, rep⟩ := hy x H3 yx
            have a3 : Aft Js G F0 fp0 H0 ρ σ F3 fp H3 [] := a.grow gr
            have same3 : ∀ b, H b ≠ none → H3 b = H b := fun b h => by
              cases e : H b with
              | none => exact absurd e h
              | some o => exact gr.keep b o e
            have tm3 : Tmp F3 fp H3 f := ⟨tm.nd, tm.dj, fun b h => ⟨fun z => by
              rcases gr.new b z with z | z | ⟨xs, z⟩
              · exact (tm.out b h).1 z
              · exact (tm.out b h).2.1 z
              · exact (tm.out b h).2.2 xs z, (tm.out b h).2.of (same3 b (tm.out b h).2.1)⟩⟩
            have al1 : ∀ b, b ∈ f ∨ b ∈ g → H b ≠ none := fun b h => by
              rw [ex b h]
              rcases h with h | h
              · exact (af.tmp.out b h).2.1
              · exact (hgf b h).elim (fun h => (af.tmp.out b h).2.1) (af.sto.fr b)
            refine ⟨F3, fp, H3, ρ, F3, fp, [], .d l[i], ρa, .refl a3.sto, by simp only [SlR]; exact ⟨trivial, rep⟩, eb, fun F4 fp4 σ4 a4 sub4 k4 _ => ?_⟩
            have tm4 := a4.st.tmp tm3
            refine tS.of a4.sto ex1 ?_
            -- where the body ends
            have fin : ∀ {ρz : Env} {F5 : Addr → Prop} {fp5 : Nat → List Addr} {H5 : Hp} {σ5 : L2.St} {f5 : List Addr}, Aft Js G F4 fp4 H3 ρz σ5 F5 fp5 H5 f5 → Kp (fixC c src).fx σ4 σ5 →
                Aft Js G F0 fp0 H0 ρz σ5 F5 fp5 H5 f5 ∧ Tmp F5 fp5 H5 f ∧ (∀ b, b ∈ f → b ∉ f5) ∧ (∀ b, F1 b → F5 b) ∧ (∀ b, F1 b → st1 (H5 b) = st1 (H1 b)) ∧ (∀ b, b ∈ f ∨ b ∈ g → H5 b = H1 b) ∧ Kp (fixC c src).fx σ0 σ5 := fun {ρz F5 fp5 H5 σ5 f5} a5 k5 => by
              have up : ∀ b, F3 b → st1 (H5 b) = st1 (H3 b) := fun b hb => by
                rw [a5.st.frSt1 a4.sto b (a4.st.sub b hb)]
              refine ⟨(a3.trans a4).trans a5, a5.st.tmp tm4, fun b hb hb5 => ?_, fun b h => a5.st.sub b (a4.st.sub b (gr.sub b (sub b h))), fun b h => ?_, fun b h => ?_, (kp.trans k4).trans k5⟩
              · rcases a5.src b hb5 with ⟨j, hj⟩ | z
                · exact tm4.dj j b hb hj
                · exact (tm4.out b hb).2.1 z
              · rw [up b (gr.sub b (sub b h)), gr.ne a.sto.fr b (sub b h)]
                exact st b h
              · rw [← ex b h]
                rcases h with h | h
                · rw [a5.st.tmpSt1 tm4 b h]; exact same3 b (tm.out b h).2.1
                · rcases hgf b h with q | q
                  · rw [a5.st.tmpSt1 tm4 b q]; exact same3 b (tm.out b q).2.1
                  · have n3 : H3 b ≠ none := a3.sto.fr b (gr.sub b (sub b q))
                    cases e3 : H3 b with
                    | none => exact absurd e3 n3
                    | some o =>
                      rw [a5.st.keep b o e3 fun j hj => (a4.sto.out j b hj).1 (a4.st.sub b (gr.sub b (sub b q))), ← e3]
                      exact same3 b (al1 b (.inr h))
            have done : ∀ {F5 : Addr → Prop} {fp5 : Nat → List Addr} {H5 : Hp} {σ5 : L2.St} {f5 : List Addr}, Aft Js G F4 fp4 H3 ρe σ5 F5 fp5 H5 f5 → Kp (fixC c src).fx σ4 σ5 → ∃ fp', Aft Js G F0 fp0 H0 ρ2 σ5 F5 fp' H5 f5 ∧ Kp c.fx σ0 σ5 := fun {F5 fp5 H5 σ5 f5} a5 k5 => by
              obtain ⟨b1, b2, b3, b4, b5, b6, b7⟩ := fin a5 k5
              obtain ⟨fp', u⟩ := unlock_ok b1 b2 b3 af.src (tokAt (fp := fp5) b7 b4 b5 fun b h => b6 b (.inl h)) eu
              exact ⟨fp', u, b7.weak (fixC_fx c src)⟩
            cases rb with
            | ex x =>
              simp only [Option.some.injEq, Prod.mk.injEq] at ef
              obtain ⟨rfl, rfl⟩ := ef
              intro F5 fp5 H5 σ5 cls d a5 k5 xr
              obtain ⟨fp', u, k⟩ := done a5 k5
              exact p F5 fp' H5 σ5 cls d u k xr
            | ok fl =>
              have again : forF (fun d => bindT (fixC c src) t (.d d)) (exs (fixC c src) b) (l.drop (i + 1)) ρb = some (r, ρe) → ∀ F' fp' H' σ', Aft Js G F4 fp4 H3 ρb σ' F' fp' H' [] → Kp (fixC c src).fx σ4 σ' → ∃ m', m' < l.length - i ∧ (m' = l.length - (i + 1) ∧ i + 1 ≤ l.length ∧ ∃ F ρ fp, Aft Js G F0 fp0 H0 ρ σ' F fp H' [] ∧ Tmp F fp H' f ∧ (∀ b, F1 b → F b) ∧ (∀ b, F1 b → st1 (H' b) = st1 (H1 b)) ∧ (∀ b, b ∈ f ∨ b ∈ g → H' b = H1 b) ∧
                  Kp (fixC c src).fx σ0 σ' ∧ forF (fun d => bindT (fixC c src) t (.d d)) (exs (fixC c src) b) (l.drop (i + 1)) ρ = some (r, ρe)) := fun ef F' fp' H' σ' a5 k5 => by
                obtain ⟨b1, b2, b3, b4, b5, b6, b7⟩ := fin a5 k5
                exact ⟨l.length - (i + 1), by omega, rfl, hlt, F', ρb, fp', b1, b2, b4, b5, b6, b7, ef⟩
              cases fl with
              | nx => exact again ef
              | ct => exact again ef
              | bk =>
                simp only [M.pure, Option.some.injEq, Prod.mk.injEq] at ef
                obtain ⟨rfl, rfl⟩ := ef
                intro F5 fp5 H5 σ5 a5 k5
                obtain ⟨fp', u, k⟩ := done a5 k5
                exact p F5 fp' H5 σ5 u k
              | rt rv =>
                simp only [M.pure, Option.some.injEq, Prod.mk.injEq] at ef
                obtain ⟨rfl, rfl⟩ := ef
                intro F5 fp5 H5 σ5 v f5 a5 k5 rl5
                obtain ⟨fp', u, k⟩ := done a5 k5
                exact p F5 fp' H5 σ5 v f5 u k rl5
      · -- the end
        have hi0 : l.length ≤ i := Nat.le_of_not_lt hlt
        refine .inl ⟨yi.1 hi0, ?_⟩
        rw [List.drop_eq_nil_of_le hi0] at ef
        simp only [forF, M.pure, Option.some.injEq, Prod.mk.injEq] at ef
        obtain ⟨rfl, rfl⟩ := ef
        obtain ⟨fp', u⟩ := unlock_ok a tm (fun b _ h => by simp at h) af.src (tokAt (fp := fp) kp sub st fun b h => ex b (.inl h)) eu
        exact p F fp' H σ u (kp.weak (fixC_fx c src))
theorem bs_for {c : Ctx} {ptg pit : Expr} {pb : List Stmt} {pos : Pos} {t : T} {src : E} {b : List S} (hp : PassesOwn (model X.prog X.w) X.A X.env X.xe) (hc : X.calm = true) (hq : dicSrc src = false)
    (hi : PI X ptg pit (tW Js G W (walkS src (ev c src)))) (hg : PG X ptg (tG Js G (fixC c src) t)) (hb : PSs X pb (tS Js G W (fixC c src).fx (exs (fixC c src) b))) (hs : ∀ x, foldedSetIterable pit X.env x = pure x)
    (htok : ∀ ρ l i x ρ', walkS src (ev c src) ρ = some (.ok (l, some (i, x)), ρ') → i ∈ (fixC c src).fx) : PS X (.For ptg pit pb [] pos) (tS Js G W c.fx (ex c (.for_ t src b))) :=
  PS.weak (ps_for hp hc hi hg hb hs) fun D σ0 H0 ⟨F0, ρ0, fp0, res, s0, e, p⟩ => by
    simp only [ex, quietIf, hq, Bool.false_eq_true, if_false] at e
    exact for_of s0 e p htok fun _ h => h
end
end Mini
/-! Mini, part J: list comprehensions of one clause. -/
namespace Mini
open PySem L2

section
variable {G : Gs} {F F0 F' : Addr → Prop} {fp fp0 fp' : Nat → List Addr} {H H0 H' : Hp} {ρ ρ1 ρ' : Env} {σ σ' : L2.St} {f g : List Addr} {is : List Nat}

theorem maskE_len : ∀ {is : List Nat} {e : Env}, (maskE is e).length = e.length
  | [], e => rfl
  | i :: is, e => by
    show (maskE is (e.set i none)).length = _
    rw [maskE_len (is := is)]; simp
theorem getI_none_set {i : Nat} {e : Env} {j : Nat} (h : getI e j = none) : getI (e.set i none) j = none := by
  by_cases hj : j = i
  · subst hj; exact getI_set_none
  · rw [getI_set_ne hj]; exact h
theorem maskE_get : ∀ {is : List Nat} {e : Env} {j : Nat}, getI (maskE is e) j = if j ∈ is then none else getI e j
  | [], e, j => by simp [maskE]
  | i :: is, e, j => by
    show getI (maskE is (e.set i none)) j = _
    rw [maskE_get (is := is)]
    by_cases hj : j ∈ is
    · simp [hj]
    · rw [if_neg hj]
      by_cases e1 : j = i
      · subst e1; rw [getI_set_none]; simp
      · rw [getI_set_ne e1]; simp [hj, e1]
theorem restE_len : ∀ {is : List Nat} {e e' : Env}, (restE is e e').length = e'.length
  | [], e, e' => rfl
  | i :: is, e, e' => by
    show (restE is e (e'.set i _)).length = _
    rw [restE_len (is := is)]; simp
theorem restE_get : ∀ {is : List Nat} {e e' : Env} {j : Nat}, e.length = e'.length → getI (restE is e e') j = if j ∈ is then getI e j else getI e' j
  | [], e, e', j, _ => by simp [restE]
  | i :: is, e, e', j, hl => by
    show getI (restE is e (e'.set i ((e[i]?).getD none))) j = _
    rw [restE_get (is := is) (by simpa using hl)]
    by_cases hj : j ∈ is
    · simp [hj]
    · rw [if_neg hj]
      by_cases e1 : j = i
      · subst e1
        simp only [List.mem_cons, true_or, if_true]
        unfold getI
        by_cases hi : j < e'.length
        · rw [List.getElem?_set_self hi]
          have hi2 : j < e.length := by omega
          rw [List.getElem?_eq_getElem hi2]
          simp only [Option.getD_some]
        · rw [List.getElem?_eq_none (by simpa using hi), List.getElem?_eq_none (by omega)]
      · rw [getI_set_ne e1]; simp [hj, e1]
theorem wipe_ne : ∀ {is : List Nat} {j : Nat}, j ∉ is → (wipe σ is)[j]? = σ[j]?
  | [], _, _ => rfl
  | i :: is, j, h => by
    simp only [List.mem_cons, not_or] at h
    show ((wipe σ is).set i none)[j]? = _
    rw [List.getElem?_set_ne (Ne.symm h.1)]
    exact wipe_ne h.2
theorem wipe_mem : ∀ {is : List Nat} {j : Nat}, j ∈ is → j < σ.length → (wipe σ is)[j]? = some none
  | i :: is, j, h, hl => by
    show ((wipe σ is).set i none)[j]? = _
    by_cases e : i = j
    · subst e; rw [List.getElem?_set_self (by rw [wipe_length]; exact hl)]
    · rw [List.getElem?_set_ne e]
      exact wipe_mem ((List.mem_cons.mp h).resolve_left (Ne.symm e)) hl
theorem wipe_eq (hl : σ'.length = σ.length) (h : ∀ i, i ∉ is → σ'[i]? = σ[i]?) : wipe σ' is = wipe σ is := by
  apply List.ext_getElem?
  intro j
  by_cases hj : j ∈ is
  · by_cases hlt : j < σ.length
    · rw [wipe_mem hj hlt, wipe_mem hj (by omega)]
    · rw [List.getElem?_eq_none (by rw [wipe_length]; omega), List.getElem?_eq_none (by rw [wipe_length]; omega)]
  · rw [wipe_ne hj, wipe_ne hj, h j hj]
theorem wipe_wipe : wipe (wipe σ is) is = wipe σ is := wipe_eq (by rw [wipe_length]) fun i h => wipe_ne h

def fpM (is : List Nat) (fp : Nat → List Addr) : Nat → List Addr := fun j => if j ∈ is then [] else fp j
theorem mem_fpM {j : Nat} {b : Addr} (h : b ∈ fpM is fp j) : j ∉ is ∧ b ∈ fp j := by
  unfold fpM at h
  by_cases hj : j ∈ is
  · rw [if_pos hj] at h; simp at h
  · rw [if_neg hj] at h; exact ⟨hj, h⟩
/-- the slots is are forgotten -/
theorem Aft.mask (a : Aft JT G F0 fp0 H0 ρ σ F fp H g) (is : List Nat) : Aft JT G F0 fp0 H0 (maskE is ρ) (wipe σ is) F (fpM is fp) H g where
  st := ⟨a.st.sub, a.st.keep, a.st.new, fun i b h => a.st.newO i b (mem_fpM h).2⟩
  sto := ⟨by rw [maskE_len, wipe_length]; exact a.sto.len, fun i r h => by
      rw [maskE_get] at h
      by_cases hi : i ∈ is
      · rw [if_pos hi] at h; cases h
      · rw [if_neg hi] at h
        obtain ⟨v, e, q⟩ := a.sto.sl i r h
        refine ⟨v, (wipe_ne hi).trans e, ?_⟩
        unfold fpM
        rw [if_neg hi]
        exact q, fun i => by
      unfold fpM
      by_cases hi : i ∈ is
      · rw [if_pos hi]; exact .nil
      · rw [if_neg hi]; exact a.sto.nd i, fun i j b h1 h2 => a.sto.dj i j b (mem_fpM h1).2 (mem_fpM h2).2, fun i b h => a.sto.out i b (mem_fpM h).2, a.sto.fr, trivial⟩
  tmp := ⟨a.tmp.nd, fun i b h q => a.tmp.dj i b h (mem_fpM q).2, a.tmp.out⟩
  src := a.src
/-- .. and had again -/
theorem Aft.unmask {fq : Nat → List Addr} (a : Aft JT G F0 fp0 H0 (maskE is ρ) (wipe σ is) F fp H g) (hl : ρ1.length = ρ.length) (hs : ∀ i r, i ∈ is → getI ρ1 i = some r → ∃ v, σ[i]? = some (some v) ∧ SlR G F H r v (fq i)) (hn : ∀ i, (fq i).Nodup)
    (hd : ∀ i j b, b ∈ fq i → b ∈ fq j → i = j) (ho : ∀ i b, i ∈ is → b ∈ fq i → ¬ F b ∧ Ow H b ∧ (∀ k, b ∉ fp k) ∧ b ∉ g ∧ ((∃ k, b ∈ fp0 k) ∨ H0 b = none)) :
    Aft JT G F0 fp0 H0 (restE is ρ1 ρ) σ F (fun j => if j ∈ is then fq j else fp j) H g where
  st := ⟨a.st.sub, a.st.keep, a.st.new, fun i b h => by
    by_cases hi : i ∈ is
    · simp only [if_pos hi] at h; exact (ho i b hi h).2.2.2.2
    · simp only [if_neg hi] at h; exact a.st.newO i b h⟩
  sto := by
    have mem : ∀ i b, b ∈ (if i ∈ is then fq i else fp i) → (i ∈ is ∧ b ∈ fq i) ∨ (i ∉ is ∧ b ∈ fp i) := fun i b h => by
      by_cases hi : i ∈ is
      · rw [if_pos hi] at h; exact .inl ⟨hi, h⟩
      · rw [if_neg hi] at h; exact .inr ⟨hi, h⟩
    refine ⟨by rw [restE_len]; have := a.sto.len; rw [maskE_len, wipe_length] at this; exact this, fun i r h => ?_, fun i => ?_, fun i j b h1 h2 => ?_, fun i b h => ?_, a.sto.fr, trivial⟩
    · rw [restE_get hl] at h
      by_cases hi : i ∈ is
      · rw [if_pos hi] at h
        simp only [if_pos hi]
        exact hs i r hi h
      · rw [if_neg hi] at h
        simp only [if_neg hi]
        obtain ⟨v, e, q⟩ := a.sto.sl i r (by rw [maskE_get, if_neg hi]; exact h)
        exact ⟨v, by rw [← wipe_ne hi]; exact e, q⟩
    · by_cases hi : i ∈ is
      · simp only [if_pos hi]; exact hn i
      · simp only [if_neg hi]; exact a.sto.nd i
    · rcases mem i b h1 with ⟨i1, q1⟩ | ⟨i1, q1⟩ <;> rcases mem j b h2 with ⟨i2, q2⟩ | ⟨i2, q2⟩
      · exact hd i j b q1 q2
      · exact absurd q2 ((ho i b i1 q1).2.2.1 j)
      · exact absurd q1 ((ho j b i2 q2).2.2.1 i)
      · exact a.sto.dj i j b q1 q2
    · rcases mem i b h with ⟨i1, q1⟩ | ⟨i1, q1⟩
      · exact ⟨(ho i b i1 q1).1, (ho i b i1 q1).2.1⟩
      · exact a.sto.out i b q1
  tmp := ⟨a.tmp.nd, fun i b h q => by
    by_cases hi : i ∈ is
    · simp only [if_pos hi] at q; exact (ho i b hi q).2.2.2.1 h
    · simp only [if_neg hi] at q; exact a.tmp.dj i b h q, a.tmp.out⟩
  src := a.src
/-- what lies outside stays outside -/
theorem Step.outside (st : Step F fp H F' fp' H') {b : Addr} (h1 : ¬ F b) (h2 : Ow H b) (h3 : ∀ k, b ∉ fp k) : H' b = H b ∧ ¬ F' b ∧ ∀ k, b ∉ fp' k := by
  have e : H' b = H b := by
    cases e : H b with
    | none => exact absurd e h2.1
    | some o => exact st.keep b o e h3
  refine ⟨e, fun z => ?_, fun k z => ?_⟩
  · rcases st.new b z with z | ⟨k, z⟩ | z | ⟨xs, z⟩
    · exact h1 z
    · exact h3 k z
    · exact h2.1 z
    · exact h2.2 xs z
  · rcases st.newO k b z with ⟨j, z⟩ | z
    · exact h3 j z
    · exact h2.1 z
/-- a place outside changes -/
theorem Aft.updT (a : Aft JT G F0 fp0 H0 ρ σ F fp H []) {p : Addr} {o : HO} (h1 : ¬ F p) (h3 : ∀ k, p ∉ fp k) (src : (∃ k, p ∈ fp0 k) ∨ H0 p = none) : Aft JT G F0 fp0 H0 ρ σ F fp (upd H p o) [] where
  st := ⟨a.st.sub, fun b u h n => by
    have : b ≠ p := fun e => by
      subst e
      rcases src with ⟨k, s⟩ | s
      · exact n k s
      · rw [h] at s; cases s
    rw [upd_ne this]
    exact a.st.keep b u h n, a.st.new, a.st.newO⟩
  sto := by
    have ne : ∀ i b, b ∈ fp i → b ≠ p := fun i b h e => by subst e; exact h3 i h
    have ne2 : ∀ b, F b → b ≠ p := fun b h e => by subst e; exact h1 h
    refine ⟨a.sto.len, fun i r h => ?_, a.sto.nd, a.sto.dj, fun i b h => ⟨(a.sto.out i b h).1, (a.sto.out i b h).2.of (upd_ne (ne i b h))⟩, fun b h => by rw [upd_ne (ne2 b h)]; exact a.sto.fr b h, trivial⟩
    obtain ⟨v, e, q⟩ := a.sto.sl i r h
    exact ⟨v, e, q.mono (fun _ h => h) (fun b h => by rw [upd_ne (ne2 b h)]) fun b h => upd_ne (ne i b h)⟩
  tmp := .nil
  src := fun _ h => by simp at h
end

/-- nothing may be raised -/
abbrev WN : WX := fun _ _ _ _ => False

section
variable {G : Gs} {W : WX} {X : Cx}
theorem PTs.weak {ifs : List Expr} {t t' : TT} (h : PTs X ifs t) (w : ∀ σ H Q, t' σ H Q → t σ H Q) : PTs X ifs t' := ⟨fun pins s σ H Q I q => h.run pins s σ H Q I (w σ H Q q)⟩
theorem bts_nil {c : Ctx} : PTs X [] (tT JT G W (evc c [])) := PTs.weak pts_nil fun σ H Q q => by
  show Q true H
  exact tM.pure_of (α := Bool) (β := Bool) (Rl := RlB) (a := true) (v := true) (by simpa only [evc] using q) fun _ _ => ⟨rfl, rfl⟩
theorem bts_one {c : Ctx} {pe : Expr} {e : E} (h : PT X pe (tT JT G W (evt c e))) : PTs X [pe] (tT JT G W (evc c [e])) := PTs.weak (pts_one h) fun σ H Q ⟨F, ρ, fp, res, s, e1, p⟩ => by
  simp only [evc] at e1
  refine bindO s e1 p.exc0 fun b ρ1 em e2 F1 fp1 H1 bv f af rl => ?_
  obtain ⟨rfl, rfl⟩ := rl
  have : res = (.ok b, ρ1) := by
    cases b with
    | true => simp only [if_true, M.pure, Option.some.injEq] at e2; exact e2.symm
    | false => simp only [Bool.false_eq_true, if_false, M.pure, Option.some.injEq] at e2; exact e2.symm
  subst this
  exact p F1 fp1 H1 b [] af ⟨rfl, rfl⟩

/-- what a comprehension's reading asks, by the language (σ: the slots around) -/
theorem lc_of {c : Ctx} {t : T} {src elt : E} {cs : List E} {wi : TI} {σ : L2.St} {H0 : Hp} {Q : VK} {F0 : Addr → Prop} {fp0 : Nat → List Addr} {ρ0 : Env} {res : Rs R × Env} (hnd : (varsT t).Nodup) (s0 : Sto JT G F0 ρ0 σ H0 fp0)
    (e : ev c (.lc elt t src cs) ρ0 = some res) (p : Post JT G W (RlV G) F0 fp0 H0 σ res Q) (hw : ∀ R, tW JT G W (walkS src (ev c src)) σ H0 R → wi σ H0 R) :
    tLc wi (tG JT G c t) (tT JT G WN (evc c cs)) (tE JT G WN (ev c elt)) (varsT t) σ H0 Q := by
  simp only [ev] at e
  generalize his : varsT t = is at *
  simp only [walkM, M.bind_assoc] at e
  refine hw _ (bindO s0 e p.exc0 fun w ρ1 em e1 F1 fp1 H1 J f af rl => ?_)
  obtain ⟨l, tok⟩ := w
  obtain ⟨⟨g, hgf, yl⟩, htk⟩ := rl
  simp only at htk yl
  intro DD hDD
  simp only [M.bind, keepM] at e1
  cases er : lcF (fun d e => bindT c t (.d d) (maskE is e)) (evc c cs) (M.bind (ev c elt) fun x => M.pure [x.frz]) l ρ1 with
  | none => (first | (rw [er] at e1; cases e1) | (simp only [M.bind] at er; rw [er] at e1; cases e1))
  | some q =>
    obtain ⟨total, ρe⟩ := q
    have er' := er
    (first | rw [er] at e1 | (simp only [M.bind] at er; rw [er] at e1))
    try simp only at e1
    cases eu : unlockL tok (restE is ρ1 ρe) with
    | none => rw [eu] at e1; cases e1
    | some ρ2 =>
      rw [eu] at e1
      simp only [M.opt] at e1
      by_cases hz : total.length ≤ sizeMax
      · rw [if_pos hz] at e1
        simp only [Option.some.injEq] at e1
        subst e1
        have neD : ∀ b, H1 b ≠ none → b ≠ DD := fun b h e => h (by rw [e]; exact hDD)
        have alH : ∀ b, (b ∈ f ∨ b ∈ g ∨ ∃ j, j ∈ is ∧ b ∈ fp1 j) → H1 b ≠ none := fun b h => by
          rcases h with h | h | ⟨j, _, h⟩
          · exact (af.tmp.out b h).2.1
          · exact (hgf b h).elim (fun h => (af.tmp.out b h).2.1) (af.sto.fr b)
          · exact (af.sto.out j b h).2.1
        have srcD : (∃ k, DD ∈ fp0 k) ∨ H0 DD = none := by
          by_cases hx : ∃ k, DD ∈ fp0 k
          · exact .inl hx
          · cases e : H0 DD with
            | none => exact .inr rfl
            | some o => (rw [af.st.keep DD o e fun i hi => hx ⟨i, hi⟩] at hDD; cases hDD)
        have srcH : ∀ b, (b ∈ f ∨ ∃ j, j ∈ is ∧ b ∈ fp1 j) → (∃ k, b ∈ fp0 k) ∨ H0 b = none := fun b h => by
          rcases h with h | ⟨j, _, h⟩
          · exact af.src b h
          · exact af.st.newO j b h
        have owH : ∀ b, (b ∈ f ∨ ∃ j, j ∈ is ∧ b ∈ fp1 j) → Ow H1 b := fun b h => by
          rcases h with h | ⟨j, _, h⟩
          · exact (af.tmp.out b h).2
          · exact (af.sto.out j b h).2
        refine ⟨fun i m H => m = l.length - i ∧ i ≤ l.length ∧ ∃ F ρ fp ds acc rest, Aft JT G F0 fp0 H0 (maskE is ρ) (wipe σ is) F fp H [] ∧ (∀ b, F1 b → F b) ∧ (∀ b, F1 b → st1 (H b) = st1 (H1 b)) ∧
            (∀ b, (b ∈ f ∨ b ∈ g ∨ ∃ j, j ∈ is ∧ b ∈ fp1 j) → H b = H1 b) ∧ (∀ b, (b ∈ f ∨ ∃ j, j ∈ is ∧ b ∈ fp1 j) → ¬ F b ∧ ∀ k, b ∉ fp k) ∧ H DD = some (.lst acc) ∧ ¬ F DD ∧ (∀ k, DD ∉ fp k) ∧ Reps G F H ds acc ∧
            lcF (fun d e => bindT c t (.d d) (maskE is e)) (evc c cs) (M.bind (ev c elt) fun x => M.pure [x.frz]) (l.drop i) ρ = some (rest, ρe) ∧ total = ds ++ rest, ⟨l.length, rfl, Nat.zero_le _, ?_⟩, ?_⟩
        · -- the start
          have a1 := af.drop.mask is
          have n1 : ¬ F1 DD := fun z => af.sto.fr DD z hDD
          have n2 : ∀ k, DD ∉ fpM is fp1 k := fun k z => (af.sto.out k DD (mem_fpM z).2).2.1 hDD
          refine ⟨F1, ρ1, fpM is fp1, [], [], total, a1.updT n1 n2 srcD, fun _ h => h, fun b h => by rw [upd_ne (neD b (af.sto.fr b h))], fun b h => upd_ne (neD b (alH b h)), fun b h => ?_, upd_same, n1, n2, .nil, by simpa using er', by simp⟩
          rcases h with h | ⟨j, hj, h⟩
          · exact ⟨(af.tmp.out b h).1, fun k z => af.tmp.dj k b h (mem_fpM z).2⟩
          · exact ⟨(af.sto.out j b h).1, fun k z => by
              have := af.sto.dj j k b h (mem_fpM z).2
              subst this
              exact (mem_fpM z).1 hj⟩
        · rintro i m H ⟨rfl, hil, F, ρ, fp, ds, acc, rest, a, sub, st, ex, out, hD, nD, nDp, rps, ef, et⟩
          have yi := yl F H sub st (fun b h => ex b (.inr (.inl h))) a.sto.fr i
          by_cases hlt : i < l.length
          · -- a turn
            refine .inr ?_
            obtain ⟨hgo, hy⟩ := yi.2 l[i] (List.getElem?_eq_getElem hlt)
            rw [List.drop_eq_getElem_cons hlt] at ef
            simp only [lcF] at ef
            cases eb : bindT c t (.d l[i]) (maskE is ρ) with
            | none => rw [eb] at ef; cases ef
            | some ρa =>
              rw [eb] at ef
              simp only at ef
              refine ⟨hgo, fun H' => ∃ m', m' < l.length - i ∧ (m' = l.length - (i + 1) ∧ i + 1 ≤ l.length ∧ ∃ F ρ fp ds acc rest, Aft JT G F0 fp0 H0 (maskE is ρ) (wipe σ is) F fp H' [] ∧ (∀ b, F1 b → F b) ∧ (∀ b, F1 b → st1 (H' b) = st1 (H1 b)) ∧
                (∀ b, (b ∈ f ∨ b ∈ g ∨ ∃ j, j ∈ is ∧ b ∈ fp1 j) → H' b = H1 b) ∧ (∀ b, (b ∈ f ∨ ∃ j, j ∈ is ∧ b ∈ fp1 j) → ¬ F b ∧ ∀ k, b ∉ fp k) ∧ H' DD = some (.lst acc) ∧ ¬ F DD ∧ (∀ k, DD ∉ fp k) ∧ Reps G F H' ds acc ∧
                lcF (fun d e => bindT c t (.d d) (maskE is e)) (evc c cs) (M.bind (ev c elt) fun x => M.pure [x.frz]) (l.drop (i + 1)) ρ = some (rest, ρe) ∧ total = ds ++ rest), fun H' h => h, fun x H3 yx => ?_⟩
              obtain ⟨F3, gr, rep⟩ := hy x H3 yx
              have l3 : Aft JT G F fp H (maskE is ρ) (wipe σ is) F3 fp H3 [] := (Aft.refl a.sto).grow gr
              refine ⟨F3, fp, H3, maskE is ρ, F3, fp, [], .d l[i], ρa, .refl l3.sto, by simp only [SlR]; exact ⟨trivial, rep⟩, eb, fun F4 fp4 σ4 a4 sub4 k4 b4 => ?_⟩
              rw [his] at b4
              have w4 : wipe σ4 is = wipe σ is := (wipe_eq (by rw [k4.1]) b4).trans wipe_wipe
              refine ⟨w4, ?_⟩
              -- what holds behind a turn that ends at H5 with the slots of ρz
              have fin : ∀ {ρz : Env} {F5 : Addr → Prop} {fp5 : Nat → List Addr} {H5 : Hp}, Aft JT G F4 fp4 H3 ρz σ4 F5 fp5 H5 [] →
                  Aft JT G F0 fp0 H0 (maskE is ρz) (wipe σ is) F5 (fpM is fp5) H5 [] ∧ (∀ b, F1 b → F5 b) ∧ (∀ b, F1 b → st1 (H5 b) = st1 (H1 b)) ∧ (∀ b, (b ∈ f ∨ b ∈ g ∨ ∃ j, j ∈ is ∧ b ∈ fp1 j) → H5 b = H1 b) ∧
                  (∀ b, (b ∈ f ∨ ∃ j, j ∈ is ∧ b ∈ fp1 j) → ¬ F5 b ∧ ∀ k, b ∉ fpM is fp5 k) ∧ H5 DD = some (.lst acc) ∧ ¬ F5 DD ∧ (∀ k, DD ∉ fpM is fp5 k) ∧ Reps G F5 H5 ds acc := fun {ρz F5 fp5 H5} a5 => by
                have lo : Aft JT G F fp H ρz σ4 F5 fp5 H5 [] := (l3.trans a4).trans a5
                have tot := (a.trans lo).mask is
                rw [w4] at tot
                have out5 : ∀ b, (b ∈ f ∨ ∃ j, j ∈ is ∧ b ∈ fp1 j) → H5 b = H b ∧ ¬ F5 b ∧ ∀ k, b ∉ fp5 k := fun b h => by
                  have e1 : H b = H1 b := ex b (h.elim .inl fun q => .inr (.inr q))
                  exact lo.st.outside (out b h).1 ((owH b h).of e1) (out b h).2
                have outD : H5 DD = H DD ∧ ¬ F5 DD ∧ ∀ k, DD ∉ fp5 k := lo.st.outside nD ⟨by rw [hD]; simp, fun xs => by rw [hD]; simp⟩ nDp
                refine ⟨tot, fun b h => lo.st.sub b (sub b h), fun b h => (lo.st.frSt1 a.sto b (sub b h)).trans (st b h), fun b h => ?_, fun b h => ⟨(out5 b h).2.1, fun k z => (out5 b h).2.2 k (mem_fpM z).2⟩, outD.1.trans hD, outD.2.1, fun k z => outD.2.2 k (mem_fpM z).2, lo.st.reps a.sto rps⟩
                rw [← ex b h]
                rcases h with h | h | h
                · exact (out5 b (.inl h)).1
                · rcases hgf b h with q | q
                  · exact (out5 b (.inl q)).1
                  · have nn : H b ≠ none := a.sto.fr b (sub b q)
                    cases e3 : H b with
                    | none => exact absurd e3 nn
                    | some o => exact lo.st.keep b o e3 fun j hj => (a.sto.out j b hj).1 (sub b q)
                · exact (out5 b (.inr h)).1
              cases ec : evc c cs ρa with
              | none => rw [ec] at ef; cases ef
              | some q =>
                obtain ⟨rc, ρb⟩ := q
                rw [ec] at ef
                refine tM.of a4.sto ec ?_
                cases rc with
                | ex x => cases ef
                | ok bv =>
                  intro F5 fp5 H5 bv' f5 a5 rl5
                  obtain ⟨rfl, rfl⟩ := rl5
                  cases bv with
                  | false =>
                    rw [if_neg Bool.false_ne_true]
                    simp only at ef
                    obtain ⟨b1, b2, b3, b4', b5, b6, b7, b8, b9⟩ := fin a5
                    exact ⟨l.length - (i + 1), by omega, rfl, hlt, F5, ρb, fpM is fp5, ds, acc, rest, b1, b2, b3, b4', b5, b6, b7, b8, b9, ef, et⟩
                  | true =>
                    rw [if_pos rfl]
                    simp only at ef
                    cases ee : M.bind (ev c elt) (fun x => M.pure [x.frz]) ρb with
                    | none => rw [ee] at ef; cases ef
                    | some q =>
                      obtain ⟨re, ρc⟩ := q
                      rw [ee] at ef
                      cases re with
                      | ex x => cases ef
                      | ok xs =>
                        refine bindO (k := fun x => M.pure [x.frz]) (res := (.ok xs, ρc)) a5.sto ee (fun x ρ' h => by cases h) fun r ρd em2 e6 F6 fp6 H6 y f6 a6 rl6 => ?_
                        simp only [M.pure, Option.some.injEq, Prod.mk.injEq, Rs.ok.injEq] at e6
                        obtain ⟨rfl, rfl⟩ := e6
                        simp only at ef
                        cases e7 : lcF (fun d e => bindT c t (.d d) (maskE is e)) (evc c cs) (M.bind (ev c elt) fun x => M.pure [x.frz]) (l.drop (i + 1)) ρd with
                        | none => rw [e7] at ef; cases ef
                        | some q =>
                          obtain ⟨rest', ρf⟩ := q
                          rw [e7] at ef
                          simp only [Option.some.injEq, Prod.mk.injEq] at ef
                          obtain ⟨rfl, rfl⟩ := ef
                          obtain ⟨b1, b2, b3, b4', b5, b6, b7, b8, b9⟩ := fin (a5.trans a6.frz)
                          have rep6 := a6.frzRep rl6
                          have hlen : ds.length = acc.length := rps.length
                          have htot : total.length = ds.length + (1 + rest'.length) := by rw [et]; simp; omega
                          have nF : ∀ b, (F6 b ∨ b ∈ f6) → b ≠ DD := fun b h e => b7 (e ▸ h)
                          refine ⟨acc, b6, by have := sizeMax_le; omega, l.length - (i + 1), by omega, rfl, hlt, _, ρd, fpM is fp6, ds ++ [r.frz], acc ++ [y], rest', b1.updT b7 b8 srcD, b2, fun b h => ?_, fun b h => ?_, b5, upd_same, b7, b8, ?_, e7, by rw [et]; simp⟩
                          · rw [upd_ne (nF b (b2 b h))]; exact b3 b h
                          · rw [upd_ne (neD b (alH b h))]; exact b4' b h
                          · exact (b9.mono (fun _ h => h) fun b h => by rw [upd_ne (nF b h)]).app (.one (rep6.mono (fun _ h => h) fun b h => by rw [upd_ne (nF b h)]))
          · -- the end
            have hi0 : l.length ≤ i := Nat.le_of_not_lt hlt
            refine .inl ⟨yi.1 hi0, ?_⟩
            rw [List.drop_eq_nil_of_le hi0] at ef
            simp only [lcF, Option.some.injEq, Prod.mk.injEq] at ef
            obtain ⟨rfl, rfl⟩ := ef
            rw [List.append_nil] at et
            subst et
            have inH : ∀ j b, j ∈ is → b ∈ fp1 j → H b = H1 b := fun j b hj hb => ex b (.inr (.inr ⟨j, hj, hb⟩))
            have len1 : ρ1.length = ρ.length := by
              have q1 := a.sto.len
              rw [maskE_len, wipe_length] at q1
              rw [af.sto.len, q1]
            have um := a.unmask (ρ1 := ρ1) (fq := fp1) len1 (fun j r hj hr => by
              obtain ⟨v, ev, q⟩ := af.sto.sl j r hr
              exact ⟨v, ev, q.mono sub st fun b hb => inH j b hj hb⟩) af.sto.nd af.sto.dj (fun j b hj hb => ⟨(out b (.inr ⟨j, hj, hb⟩)).1, (owH b (.inr ⟨j, hj, hb⟩)).of (inH j b hj hb), (out b (.inr ⟨j, hj, hb⟩)).2, by simp, srcH b (.inr ⟨j, hj, hb⟩)⟩)
            -- the places of the slots
            have memU : ∀ k b, b ∈ (if k ∈ is then fp1 k else fp k) → (∃ j, j ∈ is ∧ b ∈ fp1 j) ∨ b ∈ fp k := fun k b h => by
              by_cases hk : k ∈ is
              · rw [if_pos hk] at h; exact .inl ⟨k, hk, h⟩
              · rw [if_neg hk] at h; exact .inr h
            have tf : Tmp F (fun j => if j ∈ is then fp1 j else fp j) H f := ⟨af.tmp.nd, fun k b hb hk => by
              rcases memU k b hk with ⟨j, hj, q⟩ | q
              · exact af.tmp.dj j b hb q
              · exact (out b (.inl hb)).2 k q, fun b hb => ⟨(out b (.inl hb)).1, (af.tmp.out b hb).2.of (ex b (.inl hb))⟩⟩
            have tD : Tmp F (fun j => if j ∈ is then fp1 j else fp j) H [DD] := ⟨by simp, fun k b hb hk => by
              have e : b = DD := by simpa using hb
              subst e
              rcases memU k b hk with ⟨j, hj, q⟩ | q
              · exact (af.sto.out j b q).2.1 hDD
              · exact nDp k q, fun b hb => by
              have e : b = DD := by simpa using hb
              subst e
              exact ⟨nD, by rw [hD]; simp, fun xs => by rw [hD]; simp⟩⟩
            have uD := um.with_ (f := [DD]) tD (fun _ _ h => by simp at h) (fun b hb => by
              have e : b = DD := by simpa using hb
              subst e; exact srcD)
            rw [List.append_nil] at uD
            obtain ⟨fp', u⟩ := unlock_ok uD tf (fun b hb h => by
              have e : b = DD := by simpa using h
              subst e
              exact (af.tmp.out b hb).2.1 hDD) af.src (fun j x et => by
              obtain ⟨q, hq, hf, o⟩ := htk j x et
              exact ⟨q, hq, hf, o.mono sub st (ex q (.inl (by rw [hf]; simp)))⟩) eu
            exact p F fp' H (.ref DD) [DD] u (by simp only [RlV, SlR]; exact ⟨DD, rfl, rfl, acc, hD, rps⟩)
      · rw [if_neg hz] at e1; cases e1
end
end Mini
/-! Mini, part K: defs keep their promises. -/
namespace Mini
open PySem L2

section
variable {G : Gs} {F F0 F' : Addr → Prop} {fp fp0 fp' : Nat → List Addr} {H H0 H' : Hp} {ρ ρ' : Env} {σ σ' : L2.St} {f : List Addr} {rs : List R} {vs : List V}

theorem getI_map {rs : List R} {i : Nat} : getI (rs.map some) i = rs[i]? := by
  unfold getI
  rw [List.getElem?_map]
  cases rs[i]? <;> rfl
/-- more slots, empty -/
theorem Sto.ext (s : Sto JT G F (rs.map some) (vs.map some) H fp) (k : Nat) : Sto JT G F (rs.map some ++ List.replicate k none) (vs.map some ++ List.replicate k none) H fp := by
  have hl : rs.length = vs.length := by simpa using s.len
  refine ⟨by simp [hl], fun i r h => ?_, s.nd, s.dj, s.out, s.fr, trivial⟩
  have hi : i < rs.length := by
    unfold getI at h
    by_cases hi : i < rs.length
    · exact hi
    · rw [List.getElem?_append_right (by simpa using Nat.le_of_not_lt hi)] at h
      rw [List.getElem?_replicate] at h
      split at h
      · rename_i q
        split at q <;> simp at q
      · cases h
  have e : getI (rs.map some) i = some r := by
    unfold getI at h ⊢
    rw [List.getElem?_append_left (by simpa using hi)] at h
    exact h
  obtain ⟨v, e1, q⟩ := s.sl i r e
  exact ⟨v, by rw [List.getElem?_append_left (by simpa [← hl] using hi)]; exact e1, q⟩
theorem outsOf_get : ∀ {rs : List R} {e : Env} {i : Nat} {r : R}, getI (outsOf rs e) i = some r → ∃ q, rs[i]? = some q ∧ ((isD q = true ∧ r = q) ∨ (isD q = false ∧ getI e i = some r))
  | [], e, i, r, h => by simp [outsOf, getI] at h
  | q :: rs, e, 0, r, h => by
    simp only [outsOf, getI, List.getElem?_cons_zero] at h
    refine ⟨q, by simp, ?_⟩
    by_cases hq : isD q = true
    · rw [if_pos hq] at h
      simp only [Option.some.injEq] at h
      exact .inl ⟨hq, h.symm⟩
    · rw [if_neg hq] at h
      refine .inr ⟨by simpa using hq, ?_⟩
      cases e1 : e[0]? with
      | none => rw [e1] at h; cases h
      | some o =>
        rw [e1] at h
        cases o with
        | none => cases h
        | some z => unfold getI; rw [e1]; exact h
  | q :: rs, e, i + 1, r, h => by
    have h' : getI (outsOf rs e.tail) i = some r := by simpa [outsOf, getI] using h
    obtain ⟨z, e1, e2⟩ := outsOf_get h'
    refine ⟨z, by simpa using e1, ?_⟩
    rcases e2 with e2 | ⟨a, b⟩
    · exact .inl e2
    · refine .inr ⟨a, ?_⟩
      cases e with
      | nil => simp [getI] at b
      | cons o e => simpa [getI] using b
theorem outsOf_len : ∀ {rs : List R} {e : Env}, (outsOf rs e).length = rs.length
  | [], _ => rfl
  | _ :: rs, e => by simp [outsOf, outsOf_len (rs := rs)]
theorem lentIx_mem : ∀ {rs : List R} {k i : Nat} {q : R}, rs[i]? = some q → isD q = false → k + i ∈ lentIx k rs
  | [], _, _, _, h, _ => by simp at h
  | r :: rs, k, 0, q, h, hq => by
    simp at h
    subst h
    simp [lentIx, hq]
  | r :: rs, k, i + 1, q, h, hq => by
    have := lentIx_mem (rs := rs) (k := k + 1) (i := i) (q := q) (by simpa using h) hq
    simp only [lentIx]
    have e : k + (i + 1) = k + 1 + i := by omega
    rw [e]
    split
    · exact this
    · exact List.mem_cons_of_mem _ this
/-- what the caller has behind it -/
theorem Aft.outs (s0 : Sto JT G F0 (rs.map some) (vs.map some) H0 fp0) (a : Aft JT G F0 fp0 H0 ρ' σ' F fp H f) (hk : ∀ (i : Nat) (q : R) (v : V), rs[i]? = some q → isD q = false → vs[i]? = some v → σ'[i]? = some (some v)) :
    ∃ fp', Aft JT G F0 fp0 H0 (outsOf rs ρ') (vs.map some) F fp' H f := by
  have hl : rs.length = vs.length := by simpa using s0.len
  let keepI : Nat → Bool := fun i => match rs[i]? with | some q => !isD q | none => false
  have mem : ∀ i b, b ∈ (if keepI i then fp i else []) → keepI i = true ∧ b ∈ fp i := fun i b h => by
    by_cases hi : keepI i = true
    · rw [if_pos hi] at h; exact ⟨hi, h⟩
    · rw [if_neg hi] at h; simp at h
  refine ⟨fun i => if keepI i then fp i else [], ⟨a.st.sub, a.st.keep, a.st.new, fun i b h => a.st.newO i b (mem i b h).2⟩, ⟨by rw [outsOf_len]; simp [hl], fun i r h => ?_, fun i => ?_, fun i j b h1 h2 => a.sto.dj i j b (mem i b h1).2 (mem j b h2).2, fun i b h => a.sto.out i b (mem i b h).2, a.sto.fr, trivial⟩,
    ⟨a.tmp.nd, fun i b h q => a.tmp.dj i b h (mem i b q).2, a.tmp.out⟩, a.src⟩
  · obtain ⟨q, e1, e2⟩ := outsOf_get h
    obtain ⟨v, hv, q0⟩ := s0.sl i q (by rw [getI_map]; exact e1)
    refine ⟨v, hv, ?_⟩
    have hv' : vs[i]? = some v := by
      rw [List.getElem?_map] at hv
      cases e : vs[i]? with
      | none => rw [e] at hv; cases hv
      | some u => rw [e] at hv; simp at hv; rw [hv]
    rcases e2 with ⟨d1, rfl⟩ | ⟨d1, d2⟩
    · have hk0 : keepI i = false := by simp [keepI, e1, d1]
      cases r with
      | d x =>
        simp only [SlR] at q0 ⊢
        exact ⟨by simp [hk0], a.st.rep s0 q0.2⟩
      | _ => simp [isD] at d1
    · have hk1 : keepI i = true := by simp [keepI, e1, d1]
      obtain ⟨u, eu, q2⟩ := a.sto.sl i r d2
      rw [hk i q v e1 d1 hv'] at eu
      cases eu
      simp only [hk1, if_true]
      exact q2
  · show (if keepI i then fp i else []).Nodup
    split
    · exact a.sto.nd i
    · exact .nil
end

/-- the promise of a def from its body -/
theorem def_ok {P : Program} {w : World} {K : PySem.W.Frag} {mg : Str → Option Value} {base : Heap} {G : Gs} {x qual : Str} {st : Stmt} {f : Addr} {fd : FuncData} {N ps : List Str} {k : Nat} {c : Ctx} {fn : Fn}
    (FU : Fun K x qual st f fd) (S : FnScope N ps (defScope st)) (hnp : fn.np = ps.length) (hns : fn.ns = N.length)
    (hbody : ∀ (X : Cx) (W : WX) (fx : List Nat), (∃ cdv A outer s H E, X = cxOf (L2.CX P w) P w K mg base N qual (defScope st) f cdv A outer s H E ∧ W = fun cls d _ H => E cls d H) → Room k X.A → Takes X W → PSs X (defBody st) (tS JT G W fx (exs { c with fx := fx } fn.body))) :
    FnOk P w K mg base (L2.CX P w) (k + 1) f fd ps (spN G (fun rs => if rs.length = fn.np then runFn c fn rs else none) fn.np) := by
  refine FU.okX S (fun vs H Q E h => ?_) (fun cdv A outer s H vs Q E hr h => ?_)
  · obtain ⟨F, rs, fp, res, s0, hl, _, _⟩ := h
    have := s0.len
    simp only [List.length_map] at this
    omega
  · obtain ⟨F, rs, fp, res, s0, hl, hc, hp⟩ := h
    simp only [if_pos hl] at hc
    have hvs : rs.length = vs.length := by simpa using s0.len
    refine ⟨_, hbody _ (fun cls d _ H => E cls d H) (lentIx 0 rs) ⟨cdv, A, outer, s, H, E, rfl, rfl⟩ hr (takes_of rfl rfl rfl rfl), ?_⟩
    have hst : L2.start N vs = vs.map some ++ List.replicate (fn.ns - fn.np) none := by
      unfold L2.start
      rw [hns, ← hl, hvs]
    rw [hst]
    have s1 := s0.ext (fn.ns - fn.np)
    unfold runFn at hc
    cases he : exs { c with fx := lentIx 0 rs } fn.body (rs.map some ++ List.replicate (fn.ns - fn.np) none) with
    | none => rw [he] at hc; cases hc
    | some q =>
      obtain ⟨r, e⟩ := q
      rw [he] at hc
      refine tS.of s1 he ?_
      have keepS : ∀ {σ' : L2.St}, Kp (lentIx 0 rs) (vs.map some ++ List.replicate (fn.ns - fn.np) none) σ' → ∀ (i : Nat) (q : R) (v : V), rs[i]? = some q → isD q = false → vs[i]? = some v → σ'[i]? = some (some v) := fun {σ'} kp i q v h1 h2 h3 => by
        have hm := lentIx_mem (k := 0) h1 h2
        rw [Nat.zero_add] at hm
        rw [kp.2 i hm, List.getElem?_append_left (by simpa using (List.getElem?_eq_some_iff.mp h3).1), List.getElem?_map, h3]
        rfl
      cases r with
      | ex x =>
        simp only [Option.some.injEq] at hc
        subst hc
        intro F' fp' H' σ' cls d a kp xr
        obtain ⟨fp2, a2⟩ := a.outs s0 (keepS kp)
        exact hp F' fp2 H' cls d a2 xr
      | ok fl =>
        cases fl with
        | nx =>
          simp only [Option.some.injEq] at hc
          subst hc
          intro F' fp' H' σ' a kp
          obtain ⟨fp2, a2⟩ := a.outs s0 (keepS kp)
          exact hp F' fp2 H' .non [] a2 (by simp only [RlV, SlR, Rep]; exact ⟨trivial, trivial⟩)
        | rt rv =>
          simp only [Option.some.injEq] at hc
          subst hc
          intro F' fp' H' σ' v f a kp rl
          obtain ⟨fp2, a2⟩ := a.outs s0 (keepS kp)
          exact hp F' fp2 H' v f a2 rl
        | bk => cases hc
        | ct => cases hc
end Mini
/-! Mini, part L: what the pure functions do: numbers, comparisons. -/
namespace Mini
open PySem L2

section
variable {X : Cx}
theorem OpR.or {f : Value → Value → Sem Value} {r r' : R2} (a : OpR X f r) (b : OpR X f r') : OpR X f (fun x y H Q => r x y H Q ∨ r' x y H Q) := fun pins s σ H x y v u Q I rx ry h =>
  h.elim (a pins s σ H x y v u Q I rx ry) (b pins s σ H x y v u Q I rx ry)
theorem OpR.weak {f : Value → Value → Sem Value} {r r' : R2} (a : OpR X f r) (h : ∀ x y H Q, r' x y H Q → r x y H Q) : OpR X f r' := fun pins s σ H x y v u Q I rx ry q =>
  a pins s σ H x y v u Q I rx ry (h x y H Q q)
theorem UnR.weak {f : Value → Sem Value} {r r' : V → Hp → VK → Prop} (a : UnR X f r) (h : ∀ x H Q, r' x H Q → r x H Q) : UnR X f r' := fun pins s σ H x v Q I rx q => a pins s σ H x v Q I rx (h x H Q q)
theorem CallR.or {f : Value} {r r' : List V → Hp → VK → Prop} (a : CallR X f r) (b : CallR X f r') : CallR X f (fun x H Q => r x H Q ∨ r' x H Q) := fun pins s σ H x v Q I rx h =>
  h.elim (a pins s σ H x v Q I rx) (b pins s σ H x v Q I rx)
theorem CallR.weak {f : Value} {r r' : List V → Hp → VK → Prop} (a : CallR X f r) (h : ∀ x H Q, r' x H Q → r x H Q) : CallR X f r' := fun pins s σ H x v Q I rx q => a pins s σ H x v Q I rx (h x H Q q)
end

/-- what a pure function of two, of one, of some asks -/
def rP (G : Gs) (W : WX) (c : Ctx) (p : Pr) : R2 := fun x y H Q => ∃ (σ : L2.St) (F : Addr → Prop) (d e : D) (res : Rs R), (∀ b, F b → H b ≠ none) ∧ prim c p [d, e] = some res ∧ Rep1 G F H d x ∧ Rep1 G F H e y ∧ PP G W σ F H res Q
def uP (G : Gs) (W : WX) (c : Ctx) (p : Pr) : V → Hp → VK → Prop := fun x H Q => ∃ (σ : L2.St) (F : Addr → Prop) (d : D) (res : Rs R), (∀ b, F b → H b ≠ none) ∧ prim c p [d] = some res ∧ Rep1 G F H d x ∧ PP G W σ F H res Q
def lP (G : Gs) (W : WX) (c : Ctx) (p : Pr) : List V → Hp → VK → Prop := fun xs H Q => ∃ (σ : L2.St) (F : Addr → Prop) (ds : List D) (res : Rs R), (∀ b, F b → H b ≠ none) ∧ prim c p ds = some res ∧ Rep1s G F H ds xs ∧ PP G W σ F H res Q
section
variable {X : Cx} {Js : SP} {G : Gs} {W : WX} {c : Ctx} {p : Pr}
theorem sound2 : Sound2 G W c p (rP G W c p) := fun σ F H a b v u res Q al e r1 r2 pp => ⟨σ, F, a, b, res, al, e, r1, r2, pp⟩
theorem sound1 : Sound1 G W c p (uP G W c p) := fun σ F H a v res Q al e r1 pp => ⟨σ, F, a, res, al, e, r1, pp⟩
theorem soundL : SoundL G W c p (lP G W c p) := fun σ F H as vs res Q al e r1 pp => ⟨σ, F, as, res, al, e, r1, pp⟩

variable {F : Addr → Prop} {H : Hp} {Q : VK} {σ : L2.St}
theorem okd_eq {d : D} {res : Rs R} (h : okd d = some res) : res = .ok (.d d) := by unfold okd at h; exact (Option.some.inj h).symm
theorem okB_eq {o : Option Bool} {res : Rs R} (h : okB o = some res) : ∃ b, o = some b ∧ res = .ok (.d (.bl b)) := by
  cases o with
  | none => cases h
  | some b => exact ⟨b, rfl, okd_eq h⟩
theorem guardR_eq {b : Bool} {o : Option (Rs R)} {res : Rs R} (h : guardR b o = some res) : b = true ∧ o = some res := by
  cases b with
  | true => exact ⟨rfl, h⟩
  | false => cases h
theorem PP.int {i : Int} (p : PP G W σ F H (.ok (.d (.int i))) Q) (al : ∀ b, F b → H b ≠ none) : Q (.int i) H := p.scal al (by simp only [Rep])
theorem PP.bl {i : Bool} (p : PP G W σ F H (.ok (.d (.bl i))) Q) (al : ∀ b, F b → H b ≠ none) : Q (.bl i) H := p.scal al (by simp only [Rep])
theorem PP.str {i : Cs} (p : PP G W σ F H (.ok (.d (.str i))) Q) (al : ∀ b, F b → H b ≠ none) : Q (.str (toS i)) H := p.scal al (by simp only [Rep])
theorem PP.lst {ds : List D} {vs : List V} (p : PP G W σ F H (.ok (.own (.lst ds))) Q) (al : ∀ b, F b → H b ≠ none) (r : Reps G F H ds vs) : ∀ q, H q = none → Q (.ref q) (upd H q (.lst vs)) := fun q hq => by
  have ne : ∀ b, F b → b ≠ q := fun b h e => al b h (by rw [e]; exact hq)
  refine p F (upd H q (.lst vs)) (.ref q) [q] (.newO al hq fun _ z => nomatch z) ?_
  simp only [SlR]
  exact ⟨q, rfl, rfl, vs, upd_same, r.mono (fun _ h => h) fun b h => by rw [upd_ne (ne b h)]⟩
theorem PP.tup {ds : List D} {vs : List V} (p : PP G W σ F H (.ok (.d (.tup ds))) Q) (al : ∀ b, F b → H b ≠ none) (r : Reps G F H ds vs) : ∀ q, H q = none → Q (.ref q) (upd H q (.tup vs)) := fun q hq => by
  have ne : ∀ b, F b → b ≠ q := fun b h e => al b h (by rw [e]; exact hq)
  refine p (fun b => F b ∨ b = q) (upd H q (.tup vs)) (.ref q) [] (.newF al hq) ?_
  simp only [SlR, Rep]
  exact ⟨trivial, q, vs, rfl, .inl ⟨.inr rfl, upd_same⟩, r.mono (fun _ h => .inl h) fun b h => by rw [upd_ne (ne b h)]⟩
theorem toS_app {s t : Cs} : toS s ++ toS t = toS (s ++ t) := by
  show Str.mk _ = Str.mk _
  simp [toS]
theorem toS_len {s : Cs} : (toS s).length = s.length := by simp [toS, Str.length]
theorem rep1_int {i : Int} {v : V} (h : Rep1 G F H (.int i) v) : v = .int i := by simpa only [Rep1, Rep] using h
theorem rep1_bl {i : Bool} {v : V} (h : Rep1 G F H (.bl i) v) : v = .bl i := by simpa only [Rep1, Rep] using h
theorem rep1_str {i : Cs} {v : V} (h : Rep1 G F H (.str i) v) : v = .str (toS i) := by simpa only [Rep1, Rep] using h
theorem rep1_non {v : V} (h : Rep1 G F H .non v) : v = .non := by simpa only [Rep1, Rep] using h
/-- a tuple's place -/
theorem rep1_tup {A : Adr} {ds : List D} {v : V} (hG : G = ⟨X.K, A.ca, A.fa⟩) (h : Rep1 G F H (.tup ds) v) : ∃ a vs, v = .ref a ∧ SqT X.K H a vs ∧ Reps G F H ds vs := by
  subst hG
  simp only [Rep1, Rep] at h
  obtain ⟨a, vs, e, p, r⟩ := h
  refine ⟨a, vs, e, ?_, r⟩
  rcases p with ⟨_, p⟩ | p
  · exact .inl (.inl p)
  · exact p.elim
theorem rep1_lst {A : Adr} {ds : List D} {v : V} (hG : G = ⟨X.K, A.ca, A.fa⟩) (h : Rep1 G F H (.lst ds) v) : ∃ a vs, v = .ref a ∧ SqL X.K H a vs ∧ Reps G F H ds vs := by
  subst hG
  exact h

/-! ### numbers -/
theorem lt_two (i : Int) (h : i.natAbs < 2 ^ 64) : -(2 ^ 64) < i ∧ i < 2 ^ 64 := by omega
theorem opI_of {f : Value → Value → Sem Value} {C : Int → Int → Prop} {g : Int → Int → Int} (o : OpR X f (rI C fun i j => .int (g i j))) (h : ∀ d e res, prim c p [d, e] = some res → ∃ i j, d = .int i ∧ e = .int j ∧ C i j ∧ res = .ok (.d (.int (g i j)))) : OpR X f (rP G W c p) :=
  OpR.weak o fun x y H Q ⟨σ, F, d, e, res, al, hp, r1, r2, pp⟩ => by
    obtain ⟨i, j, rfl, rfl, hc, rfl⟩ := h d e res hp
    exact ⟨i, j, rep1_int r1, rep1_int r2, hc, pp.int al⟩
theorem opI0_of {f : Value → Value → Sem Value} {g : Int → Int → Int} (o : OpR X f (rI0 fun i j => .int (g i j))) (h : ∀ d e res, prim c p [d, e] = some res → ∃ i j, d = .int i ∧ e = .int j ∧ res = .ok (.d (.int (g i j)))) : OpR X f (rP G W c p) :=
  OpR.weak o fun x y H Q ⟨σ, F, d, e, res, al, hp, r1, r2, pp⟩ => by
    obtain ⟨i, j, rfl, rfl, rfl⟩ := h d e res hp
    exact ⟨i, j, rep1_int r1, rep1_int r2, pp.int al⟩
theorem op_sub_ok : OpR X (binaryOp .Sub) (rP G W c .sub) := opI0_of op_sub fun d e res h => by
  simp only [prim] at h
  cases d <;> cases e <;> simp only [arith, arithI] at h <;> first | exact ⟨_, _, rfl, rfl, okd_eq h⟩ | cases h
theorem op_fdiv_ok : OpR X (binaryOp .FloorDiv) (rP G W c .fdiv) := opI_of op_fdivW fun d e res h => by
  simp only [prim] at h
  cases d <;> cases e <;> simp only [arith, arithI] at h <;> first | (obtain ⟨g, h⟩ := guardR_eq h; simp only [divOk, Bool.and_eq_true, decide_eq_true_eq] at g; exact ⟨_, _, rfl, rfl, g, okd_eq h⟩) | cases h
theorem op_mod_ok : OpR X (binaryOp .Mod) (rP G W c .mod) := opI_of op_mod fun d e res h => by
  simp only [prim] at h
  cases d <;> cases e <;> simp only [arith, arithI] at h <;> first | (obtain ⟨g, h⟩ := guardR_eq h; exact ⟨_, _, rfl, rfl, of_decide_eq_true g, okd_eq h⟩) | cases h
theorem op_pow_ok : OpR X (binaryOp .Pow) (rP G W c .pow) := opI_of op_pow fun d e res h => by
  simp only [prim] at h
  cases d <;> cases e <;> simp only [arith, arithI] at h <;> first | (obtain ⟨g, h⟩ := guardR_eq h; simp only [powOk, Bool.and_eq_true, decide_eq_true_eq] at g; exact ⟨_, _, rfl, rfl, ⟨g.1.1, by omega, g.2⟩, okd_eq h⟩) | cases h
/-- a product of numbers: one of them small, or both not too great -/
theorem op_mulI : OpR X (binaryOp .Mult) (rI (fun i j => mulOk i j = true) fun i j => .int (i * j)) :=
  OpR.weak (OpR.or op_mul op_mulW) fun x y H Q ⟨i, j, e1, e2, hc, q⟩ => by
    simp only [mulOk, Bool.or_eq_true, decide_eq_true_eq] at hc
    rcases hc with (hc | hc) | hc
    · exact .inl ⟨i, j, e1, e2, .inl (lt_two i hc), q⟩
    · exact .inl ⟨i, j, e1, e2, .inr (lt_two j hc), q⟩
    · exact .inr ⟨i, j, e1, e2, hc, q⟩
theorem op_mul_ok : OpR X (binaryOp .Mult) (rP G W c .mul) := opI_of op_mulI fun d e res h => by
  simp only [prim] at h
  cases d <;> cases e <;> simp only [arith, arithI] at h <;> first | (obtain ⟨g, h⟩ := guardR_eq h; exact ⟨_, _, rfl, rfl, g, okd_eq h⟩) | cases h
theorem un_neg_ok : UnR X (unaryOp .USub) (uP G W c .neg) := UnR.weak un_neg fun x H Q ⟨σ, F, d, res, al, hp, r1, pp⟩ => by
  have : ∃ i, d = .int i ∧ res = .ok (.d (.int (-i))) := by
    cases d <;> simp only [prim] at hp <;> first | exact ⟨_, rfl, okd_eq hp⟩ | cases hp
  obtain ⟨i, rfl, rfl⟩ := this
  exact ⟨i, rep1_int r1, pp.int al⟩

/-! ### + of texts, lists, tuples -/
/-- two lists wherever they lie -/
def rCatL (K : PySem.W.Frag) : R2 := fun x y H Q => ∃ l b xs zs, x = .ref l ∧ y = .ref b ∧ SqL K H l xs ∧ SqL K H b zs ∧ xs.length + zs.length ≤ sizeLine ∧ ∀ p, H p = none → Q (.ref p) (upd H p (.lst (xs ++ zs)))
theorem op_catL : OpR X (binaryOp .Add) (rCatL X.K) := by
  intro pins s σ H x y v u Q I rx ry h
  obtain ⟨l, b, xs, zs, rfl, rfl, hl, hb, hz, q⟩ := h
  cases rx
  cases ry
  obtain ⟨its, r1, ⟨⟨cls, dd, data, sl⟩, n, ho, hc, _, hd⟩, _⟩ := I.list hl
  obtain ⟨its2, r2, ⟨⟨cls2, dd2, data2, sl2⟩, n2, ho2, hc2, _, hd2⟩, _⟩ := I.list hb
  simp only at hc hd hc2 hd2
  subst hc hd hc2 hd2
  have e : its.toArray ++ its2.toArray = (its ++ its2).toArray := by simp
  have z : its.toArray.size + its2.toArray.size ≤ sizeLine := by rw [List.size_toArray, List.size_toArray, ← r1.length, ← r2.length]; exact hz
  refine PySem.concat_meets ⟨_, ho, rfl⟩ ⟨_, ho2, rfl⟩ PySem.noFill_list_add PySem.seq_list_add PySem.F.slot_list_add PySem.F.entry_list_add (PySem.F.args_list_add_2 _ _) (PyProof.Rows.list_addW l b its.toArray its2.toArray n n2 dd dd2 sl sl2 z) ⟨ho, ho2, ?_⟩
  rw [e]
  exact ⟨.ref _, _, I.lnew (t' := s.toks) (r1.append r2) (by rw [List.length_append]; omega), rfl, q _ I.fresh⟩
theorem op_add_ok {A : Adr} (hG : G = ⟨X.K, A.ca, A.fa⟩) : OpR X (binaryOp .Add) (rP G W c .add) :=
  OpR.weak (OpR.or op_add (OpR.or op_add_str (OpR.or op_catL op_catA))) fun x y H Q ⟨σ, F, d, e, res, al, hp, r1, r2, pp⟩ => by
    have hh : (∃ i j, d = .int i ∧ e = .int j ∧ okd (.int (i + j)) = some res) ∨ (∃ s t, d = .str s ∧ e = .str t ∧ guardR (decide (s.length + t.length ≤ sizeMax)) (okd (.str (s ++ t))) = some res) ∨
        (∃ s t, d = .tup s ∧ e = .tup t ∧ guardR (decide (s.length + t.length ≤ sizeMax)) (okd (.tup (s ++ t))) = some res) ∨ (∃ s t, d = .lst s ∧ e = .lst t ∧ guardR (decide (s.length + t.length ≤ sizeMax)) (okw (.lst (s ++ t))) = some res) := by
      simp only [prim] at hp
      cases d <;> cases e <;> simp only [arith, arithI] at hp <;> first
        | exact .inl ⟨_, _, rfl, rfl, hp⟩ | exact .inr (.inl ⟨_, _, rfl, rfl, hp⟩) | exact .inr (.inr (.inl ⟨_, _, rfl, rfl, hp⟩)) | exact .inr (.inr (.inr ⟨_, _, rfl, rfl, hp⟩)) | cases hp
    clear hp
    rcases hh with ⟨i, j, rfl, rfl, hp⟩ | ⟨s, t, rfl, rfl, hp⟩ | ⟨s, t, rfl, rfl, hp⟩ | ⟨s, t, rfl, rfl, hp⟩
    · have e := okd_eq hp
      subst e
      exact .inl ⟨i, j, rep1_int r1, rep1_int r2, pp.int al⟩
    · obtain ⟨g, hp⟩ := guardR_eq hp
      have e := okd_eq hp
      subst e
      have z := Nat.le_trans (of_decide_eq_true g) sizeMax_le
      exact .inr (.inl ⟨toS s, toS t, rep1_str r1, rep1_str r2, by rw [toS_len, toS_len]; exact z, by rw [toS_app]; exact pp.str al⟩)
    · obtain ⟨g, hp⟩ := guardR_eq hp
      have z := Nat.le_trans (of_decide_eq_true g) sizeMax_le
      obtain ⟨a, vs, rfl, h1, q1⟩ := rep1_tup hG r1
      obtain ⟨b, ws, rfl, h2, q2⟩ := rep1_tup hG r2
      have e := okd_eq hp
      subst e
      refine .inr (.inr (.inr ⟨a, b, vs, ws, rfl, rfl, h1, h2, by rw [← q1.length, ← q2.length]; exact z, fun e => ?_, fun n e => ?_, fun n m => pp.tup al (q1.app q2)⟩))
      · subst e
        have : s = [] := List.eq_nil_of_length_eq_zero (by rw [q1.length]; rfl)
        subst this
        exact pp F H (.ref b) [] (.refl al) (by simp only [SlR]; exact ⟨trivial, by simpa [Rep1] using r2⟩)
      · subst e
        have : t = [] := List.eq_nil_of_length_eq_zero (by rw [q2.length]; rfl)
        subst this
        exact pp F H (.ref a) [] (.refl al) (by simp only [SlR, List.append_nil]; exact ⟨trivial, by simpa [Rep1] using r1⟩)
    · obtain ⟨g, hp⟩ := guardR_eq hp
      have z := Nat.le_trans (of_decide_eq_true g) sizeMax_le
      obtain ⟨a, vs, rfl, h1, q1⟩ := rep1_lst hG r1
      obtain ⟨b, ws, rfl, h2, q2⟩ := rep1_lst hG r2
      have e : res = .ok (.own (.lst (s ++ t))) := (Option.some.inj hp).symm
      subst e
      exact .inr (.inr (.inl ⟨a, b, vs, ws, rfl, rfl, h1, h2, by rw [← q1.length, ← q2.length]; exact z, pp.lst al (q1.app q2)⟩))
end
end Mini
/-! Mini, part M: comparisons. -/
namespace Mini
open PySem L2

section
variable {X : Cx} {Js : SP} {G : Gs} {W : WX} {c : Ctx} {p : Pr} {F : Addr → Prop} {H : Hp} {Q : VK} {σ : L2.St}
theorem opB_of {f : Value → Value → Sem Value} {g : Int → Int → Bool} (o : OpR X f (rI0 fun i j => .bl (g i j))) (h : ∀ d e res, prim c p [d, e] = some res → ∃ i j, d = .int i ∧ e = .int j ∧ res = .ok (.d (.bl (g i j)))) : OpR X f (rP G W c p) :=
  OpR.weak o fun x y H Q ⟨σ, F, d, e, res, al, hp, r1, r2, pp⟩ => by
    obtain ⟨i, j, rfl, rfl, rfl⟩ := h d e res hp
    exact ⟨i, j, rep1_int r1, rep1_int r2, pp.bl al⟩
theorem okBs {b : Bool} {res : Rs R} (h : okB (some b) = some res) : res = .ok (.d (.bl b)) := okd_eq h
theorem op_le_ok : OpR X (compareOp .LtE) (rP G W c .le) := opB_of op_le fun d e res h => by
  simp only [prim] at h
  cases d <;> cases e <;> simp only [cmpD] at h <;> first | exact ⟨_, _, rfl, rfl, okBs h⟩ | cases h
theorem op_gt_ok : OpR X (compareOp .Gt) (rP G W c .gt) := opB_of op_gt fun d e res h => by
  simp only [prim] at h
  cases d <;> cases e <;> simp only [cmpD] at h <;> first | exact ⟨_, _, rfl, rfl, okBs h⟩ | cases h
theorem op_ge_ok : OpR X (compareOp .GtE) (rP G W c .ge) := opB_of op_ge fun d e res h => by
  simp only [prim] at h
  cases d <;> cases e <;> simp only [cmpD] at h <;> first | exact ⟨_, _, rfl, rfl, okBs h⟩ | cases h
theorem ltCs_iff : ∀ {s t : Cs}, ltCs s t = decide (s < t)
  | [], [] => by simp [ltCs]
  | [], _ :: _ => by simp [ltCs]
  | _ :: _, [] => by simp [ltCs]
  | a :: r, b :: q => by
    simp only [ltCs, List.cons_lt_cons_iff]
    by_cases h : a = b
    · subst h; simp [ltCs_iff (s := r) (t := q)]
    · simp [h]
theorem op_lt_ok : OpR X (compareOp .Lt) (rP G W c .lt) :=
  OpR.weak (OpR.or op_lt op_lt_str) fun x y H Q ⟨σ, F, d, e, res, al, hp, r1, r2, pp⟩ => by
    have hh : (∃ i j, d = .int i ∧ e = .int j ∧ res = .ok (.d (.bl (decide (i < j))))) ∨ (∃ i j, d = .str i ∧ e = .str j ∧ res = .ok (.d (.bl (ltCs i j)))) := by
      simp only [prim] at hp
      cases d <;> cases e <;> simp only [cmpD] at hp <;> first | exact .inl ⟨_, _, rfl, rfl, okBs hp⟩ | exact .inr ⟨_, _, rfl, rfl, okBs hp⟩ | cases hp
    rcases hh with ⟨i, j, rfl, rfl, rfl⟩ | ⟨i, j, rfl, rfl, rfl⟩
    · exact .inl ⟨i, j, rep1_int r1, rep1_int r2, pp.bl al⟩
    · refine .inr ⟨toS i, toS j, rep1_str r1, rep1_str r2, ?_⟩
      have := pp.bl al
      rw [ltCs_iff] at this
      exact this

/-! ### == of data -/
mutual
def toP : D → PyData
  | .non => .none
  | .bl b => .bool b
  | .int i => .int i
  | .str s => .str (toS s)
  | .tup ds => .tuple (toPs ds)
  | .lst ds => .list (toPs ds)
  | _ => .none
termination_by structural x => x
def toPs : List D → List PyData
  | [] => []
  | d :: r => toP d :: toPs r
termination_by structural x => x
end
theorem toPs_map : ∀ {ds : List D}, toPs ds = ds.map toP
  | [] => rfl
  | d :: r => by simp [toPs, toPs_map (ds := r)]
mutual
theorem dp_of {A : Adr} (hG : G = ⟨X.K, A.ca, A.fa⟩) : ∀ {d : D} {n : Nat} {v : V}, okP d n = true → Rep G F H d v → Dp X.K H v (toP d)
  | .non, _, _, _, r => by simp only [Rep] at r; subst r; exact .non
  | .bl _, _, _, _, r => by simp only [Rep] at r; subst r; exact .bl _
  | .int _, _, _, _, r => by simp only [Rep] at r; subst r; exact .int _
  | .str _, _, _, _, r => by simp only [Rep] at r; subst r; exact .str _
  | .tup ds, n, _, h, r => by
    obtain ⟨a, vs, rfl, q, rs⟩ := rep1_tup hG (r.rep1)
    cases n with
    | zero => simp [okP] at h
    | succ m => exact .tup q (dps_of hG (by simpa [okP] using h) rs)
  | .lst ds, n, _, h, r => by
    obtain ⟨a, vs, rfl, q, rs⟩ := rep1_lst hG (r.rep1)
    cases n with
    | zero => simp [okP] at h
    | succ m => exact .lst q (dps_of hG (by simpa [okP] using h) rs)
  | .dic _, _, _, h, _ => by simp [okP] at h
  | .obj _ _, _, _, h, _ => by simp [okP] at h
  | .fn _, _, _, h, _ => by simp [okP] at h
  | .nimp, _, _, h, _ => by simp [okP] at h
termination_by structural d => d
theorem dps_of {A : Adr} (hG : G = ⟨X.K, A.ca, A.fa⟩) : ∀ {ds : List D} {n : Nat} {vs : List V}, okPs ds n = true → Reps G F H ds vs → DpAll X.K H vs (toPs ds)
  | [], _, _, _, r => by simp only [Reps] at r; subst r; exact .nil
  | d :: q, n, _, h, r => by
    simp only [Reps] at r
    obtain ⟨v, w, rfl, r1, r2⟩ := r
    simp only [okPs, Bool.and_eq_true] at h
    exact .cons (dp_of hG h.1 r1) (dps_of hG h.2 r2)
termination_by structural ds => ds
end
/-- the outermost list wherever it lies -/
theorem dp_of1 {A : Adr} (hG : G = ⟨X.K, A.ca, A.fa⟩) {d : D} {n : Nat} {v : V} (h : okP d n = true) (r : Rep1 G F H d v) : Dp X.K H v (toP d) := by
  cases d with
  | lst ds =>
    obtain ⟨a, vs, rfl, q, rs⟩ := rep1_lst hG r
    cases n with
    | zero => simp [okP] at h
    | succ m => exact .lst q (dps_of hG (by simpa [okP] using h) rs)
  | dic _ => simp [okP] at h
  | _ => exact dp_of (F := F) hG h r
mutual
theorem lay_of : ∀ {d : D} {n : Nat}, okP d n = true → (toP d).canLay0 = true ∧ (toP d).depth ≤ n
  | .non, _, _ => by simp [toP, PyData.canLay0, PyData.depth]
  | .bl _, _, _ => by simp [toP, PyData.canLay0, PyData.depth]
  | .int _, _, _ => by simp [toP, PyData.canLay0, PyData.depth]
  | .str s, _, h => by
    simp only [okP, Bool.and_eq_true] at h
    simp only [toP, PyData.canLay0, PyData.depth, Nat.zero_le, and_true, PyData.strOk, toS]
    simpa using h.1
  | .tup ds, n, h => by
    cases n with
    | zero => simp [okP] at h
    | succ m =>
      obtain ⟨a, b⟩ := lays_of (ds := ds) (n := m) (by simpa [okP] using h)
      simp only [toP, PyData.canLay0, PyData.depth]
      exact ⟨a, by omega⟩
  | .lst ds, n, h => by
    cases n with
    | zero => simp [okP] at h
    | succ m =>
      obtain ⟨a, b⟩ := lays_of (ds := ds) (n := m) (by simpa [okP] using h)
      simp only [toP, PyData.canLay0, PyData.depth]
      exact ⟨a, by omega⟩
  | .dic _, _, h => by simp [okP] at h
  | .obj _ _, _, h => by simp [okP] at h
  | .fn _, _, h => by simp [okP] at h
  | .nimp, _, h => by simp [okP] at h
termination_by structural d => d
theorem lays_of : ∀ {ds : List D} {n : Nat}, okPs ds n = true → PyData.canLayAll0 (toPs ds) = true ∧ PyData.depthAll (toPs ds) ≤ n
  | [], _, _ => by simp [toPs, PyData.canLayAll0, PyData.depthAll]
  | d :: q, n, h => by
    simp only [okPs, Bool.and_eq_true] at h
    obtain ⟨a, b⟩ := lay_of h.1
    obtain ⟨a2, b2⟩ := lays_of h.2
    simp only [toPs, PyData.canLayAll0, PyData.depthAll, a, a2]
    exact ⟨rfl, by omega⟩
termination_by structural ds => ds
end
theorem shaped_of {d : D} (h : okP d 60 = true) : SeqAt.shaped (toP d) = true := by
  obtain ⟨a, b⟩ := lay_of h
  unfold SeqAt.shaped
  rw [a]
  simp; omega
theorem toS_beq {a b : Cs} : (toS a == toS b) = (a == b) := by
  by_cases h : a = b
  · subst h; simp
  · have : toS a ≠ toS b := fun e => h (toS_inj e)
    rw [beq_eq_false_iff_ne.mpr this, beq_eq_false_iff_ne.mpr h]
mutual
theorem eqv_of : ∀ {d e : D} {n m : Nat} {b : Bool}, okP d n = true → okP e m = true → eqD c d e = some b → PyData.eqv (toP d) (toP e) = b
  | .non, e, _, _, _, _, h2, h => by
    cases e <;> first | (exfalso; simp [okP] at h2; done) | (simp [eqD] at h; done) | (simp only [eqD, Option.some.injEq] at h; subst h; rfl)
  | .bl a, e, _, _, _, _, h2, h => by
    cases e <;> first | (exfalso; simp [okP] at h2; done) | (simp [eqD] at h; done) | (simp only [eqD, Option.some.injEq] at h; subst h; rfl)
  | .int a, e, _, _, _, _, h2, h => by
    cases e <;> first | (exfalso; simp [okP] at h2; done) | (simp [eqD] at h; done) | (simp only [eqD, Option.some.injEq] at h; subst h; rfl)
  | .str a, e, _, _, _, _, h2, h => by
    cases e <;> first | (exfalso; simp [okP] at h2; done) | (simp only [eqD, Option.some.injEq] at h; subst h; rfl) | (simp only [eqD, Option.some.injEq] at h; subst h; simp only [toP, PyData.eqv]; exact toS_beq)
  | .tup ds, e, n, m, _, h1, h2, h => by
    cases e <;> first | (exfalso; simp [okP] at h2; done) | (simp only [eqD, Option.some.injEq] at h; subst h; rfl) | simp only [eqD] at h
    rename_i es
    cases n with
    | zero => simp [okP] at h1
    | succ n =>
      cases m with
      | zero => simp [okP] at h2
      | succ m => exact eqvs_of (by simpa [okP] using h1) (by simpa [okP] using h2) h
  | .lst ds, e, n, m, _, h1, h2, h => by
    cases e <;> first | (exfalso; simp [okP] at h2; done) | (simp only [eqD, Option.some.injEq] at h; subst h; rfl) | simp only [eqD] at h
    rename_i es
    cases n with
    | zero => simp [okP] at h1
    | succ n =>
      cases m with
      | zero => simp [okP] at h2
      | succ m =>
        by_cases hl : ds.length = es.length
        · rw [if_pos hl] at h
          exact eqvs_of (by simpa [okP] using h1) (by simpa [okP] using h2) h
        · rw [if_neg hl] at h
          simp only [Option.some.injEq] at h
          subst h
          simp only [toP, PyData.eqv]
          exact eqvs_len hl
  | .dic _, _, _, _, _, h, _, _ => by simp [okP] at h
  | .obj _ _, _, _, _, _, h, _, _ => by simp [okP] at h
  | .fn _, _, _, _, _, h, _, _ => by simp [okP] at h
  | .nimp, _, _, _, _, h, _, _ => by simp [okP] at h
termination_by structural d => d
theorem eqvs_of : ∀ {ds es : List D} {n m : Nat} {b : Bool}, okPs ds n = true → okPs es m = true → eqDs c ds es = some b → PyData.eqvAll (toPs ds) (toPs es) = b
  | [], es, _, _, _, _, _, h => by
    cases es <;> simp only [eqDs, Option.some.injEq] at h <;> subst h <;> rfl
  | d :: ds, es, n, m, b, h1, h2, h => by
    cases es with
    | nil => simp only [eqDs, Option.some.injEq] at h; subst h; rfl
    | cons e es =>
      simp only [okPs, Bool.and_eq_true] at h1 h2
      simp only [eqDs] at h
      simp only [toPs, PyData.eqvAll]
      cases q : eqD c d e with
      | none => rw [q] at h; cases h
      | some r =>
        rw [q] at h
        rw [eqv_of h1.1 h2.1 q]
        cases r with
        | true => simp only at h; rw [eqvs_of h1.2 h2.2 h]; rfl
        | false => simp only [Option.some.injEq] at h; subst h; rfl
termination_by structural ds => ds
theorem eqvs_len : ∀ {ds es : List D}, ds.length ≠ es.length → PyData.eqvAll (toPs ds) (toPs es) = false
  | [], [], h => absurd rfl h
  | [], _ :: _, _ => rfl
  | _ :: _, [], _ => rfl
  | d :: ds, e :: es, h => by
    simp only [toPs, PyData.eqvAll]
    rw [eqvs_len (ds := ds) (es := es) (by simpa using h)]
    simp
termination_by structural ds => ds
end
theorem op_eq_ok {A : Adr} (hG : G = ⟨X.K, A.ca, A.fa⟩) (hu : X.A.units + 64 < cLine) : OpR X (compareOp .Eq) (rP G W c .eq) :=
  OpR.weak (op_eqD hu) fun x y H Q ⟨σ, F, d, e, res, al, hp, r1, r2, pp⟩ => by
    simp only [prim, cmpD] at hp
    obtain ⟨g, hp⟩ := guardR_eq hp
    simp only [Bool.and_eq_true] at g
    obtain ⟨b, hb, rfl⟩ := okB_eq hp
    exact ⟨toP d, toP e, dp_of1 hG g.1 r1, dp_of1 hG g.2 r2, shaped_of g.1, shaped_of g.2, by rw [eqv_of g.1 g.2 hb]; exact pp.bl al⟩
theorem op_ne_ok {A : Adr} (hG : G = ⟨X.K, A.ca, A.fa⟩) (hu : X.A.units + 64 < cLine) : OpR X (compareOp .NotEq) (rP G W c .ne) :=
  OpR.weak (op_neD hu) fun x y H Q ⟨σ, F, d, e, res, al, hp, r1, r2, pp⟩ => by
    simp only [prim, cmpD] at hp
    obtain ⟨g, hp⟩ := guardR_eq hp
    simp only [Bool.and_eq_true] at g
    obtain ⟨b, hb, rfl⟩ := okB_eq hp
    cases hb2 : eqD c d e with
    | none => rw [hb2] at hb; cases hb
    | some r =>
      rw [hb2] at hb
      simp only [Option.map_some, Option.some.injEq] at hb
      subst hb
      exact ⟨toP d, toP e, dp_of1 hG g.1 r1, dp_of1 hG g.2 r2, shaped_of g.1, shaped_of g.2, by rw [eqv_of g.1 g.2 hb2]; exact pp.bl al⟩
end
end Mini
/-! Mini, part N: in, is, tests, builtin calls. -/
namespace Mini
open PySem L2

section
variable {X : Cx} {Js : SP} {G : Gs} {W : WX} {c : Ctx} {p : Pr} {F : Addr → Prop} {H : Hp} {Q : VK} {σ : L2.St} {A : Adr}
theorem rep1s_one {d : D} {vs : List V} (h : Rep1s G F H [d] vs) : ∃ v, vs = [v] ∧ Rep1 G F H d v := by
  obtain ⟨v, q, rfl, r, e⟩ := h
  simp only [Rep1s] at e
  subst e
  exact ⟨v, rfl, r⟩
theorem rep1s_two {d e : D} {vs : List V} (h : Rep1s G F H [d, e] vs) : ∃ v u, vs = [v, u] ∧ Rep1 G F H d v ∧ Rep1 G F H e u := by
  obtain ⟨v, q, rfl, r, e⟩ := h
  obtain ⟨u, rfl, r2⟩ := rep1s_one e
  exact ⟨v, u, rfl, r, r2⟩
/-! ### is None -/
def isNonD : D → Bool
  | .non => true
  | _ => false
theorem rep1_isN {d : D} {v : V} (h : Rep1 G F H d v) (n : d ≠ .nimp) : decide (v = .non) = isNonD d := by
  cases d with
  | non => rw [rep1_non h]; rfl
  | bl b => rw [rep1_bl h]; rfl
  | int i => rw [rep1_int h]; rfl
  | str s => rw [rep1_str h]; rfl
  | nimp => exact absurd rfl n
  | tup ds =>
    simp only [Rep1, Rep] at h
    obtain ⟨a, vs, rfl, _⟩ := h
    rfl
  | lst ds =>
    obtain ⟨a, vs, rfl, _⟩ := h
    rfl
  | dic ds =>
    obtain ⟨a, rfl, _⟩ := h
    rfl
  | obj k fs =>
    simp only [Rep1, Rep] at h
    obtain ⟨a, dx, xs, rfl, _⟩ := h
    rfl
  | fn x =>
    simp only [Rep1, Rep] at h
    subst h
    rfl
theorem bw_isN {a : E} {pa : Expr} {j : Nat} {pos pos' : Pos} (ha : PE X pa (tM Js G W (RlA G) (argM a (ev c a)))) (hm : behindInMarks .Is (.Constant .none j pos') = false) : PE X (.Compare pa [.Is] [.Constant .none j pos'] pos) (tE Js G W (ev c (.prim .isN [a]))) :=
  bw_prim1 rfl (PE.weak (pe_cmp (pc_isN ha) hm) fun σ H Q q => q) fun σ F H d v res Q al hp r pp => by
    have hd : d ≠ .nimp := fun e => by subst e; simp [prim] at hp
    have : res = .ok (.d (.bl (isNonD d))) := by
      cases d <;> simp only [prim] at hp <;> first | exact okd_eq hp | exact absurd rfl hd
    subst this
    rw [rep1_isN r hd]
    exact pp.bl al
theorem bw_notN {a : E} {pa : Expr} {j : Nat} {pos pos' : Pos} (ha : PE X pa (tM Js G W (RlA G) (argM a (ev c a)))) (hm : behindInMarks .IsNot (.Constant .none j pos') = false) : PE X (.Compare pa [.IsNot] [.Constant .none j pos'] pos) (tE Js G W (ev c (.prim .notN [a]))) :=
  bw_prim1 rfl (PE.weak (pe_cmp (pc_notN ha) hm) fun σ H Q q => q) fun σ F H d v res Q al hp r pp => by
    have hd : d ≠ .nimp := fun e => by subst e; simp [prim] at hp
    have : res = .ok (.d (.bl (!(isNonD d)))) := by
      cases d <;> simp only [prim] at hp <;> first | exact okd_eq hp | exact absurd rfl hd
    subst this
    rw [rep1_isN r hd]
    exact pp.bl al

/-! ### tests of a value -/
theorem tru_of {d : D} {v : V} {b : Bool} (hG : G = ⟨X.K, A.ca, A.fa⟩) (h : Rep1 G F H d v) (e : truthD c d = some b) : TruV X.K v H b := by
  cases d with
  | non => rw [rep1_non h]; simp only [truthD, Option.some.injEq] at e; exact e.symm
  | bl x => rw [rep1_bl h]; simp only [truthD, Option.some.injEq] at e; exact e.symm
  | int i => rw [rep1_int h]; simp only [truthD, Option.some.injEq] at e; exact e.symm
  | str s =>
    rw [rep1_str h]
    simp only [truthD] at e
    by_cases hz : s.length ≤ sizeMax
    · rw [if_pos hz] at e
      simp only [Option.some.injEq] at e
      refine ⟨by rw [toS_len]; exact Nat.le_trans hz sizeMax_le, ?_⟩
      rw [toS_len, ← e]
      cases s <;> simp <;> omega
    · rw [if_neg hz] at e; cases e
  | tup ds =>
    obtain ⟨a, vs, rfl, q, r⟩ := rep1_tup hG h
    simp only [truthD, Option.some.injEq] at e
    refine .inr (.inl ⟨vs, q, ?_⟩)
    have l := r.length
    rw [← e]
    cases ds <;> cases vs <;> simp at l ⊢
  | lst ds =>
    obtain ⟨a, vs, rfl, q, r⟩ := rep1_lst hG h
    simp only [truthD, Option.some.injEq] at e
    refine .inl ⟨vs, q, ?_⟩
    have l := r.length
    rw [← e]
    cases ds <;> cases vs <;> simp at l ⊢
  | _ => simp [truthD] at e
theorem bt_val {pe : Expr} {e : E} (hG : G = ⟨X.K, A.ca, A.fa⟩) (h : PE X pe (tE Js G W (ev c e))) (hp : ∀ whole, isTrue pe X.env whole = (do let v ← whole; standAt pe.pos; holding [v] (truthy v))) : PT X pe (tT Js G W (evt c (.tval e))) := by
  refine PT.weak (pt_truth h hp) fun σ H Q ⟨F, ρ, fp, res, s, em, p⟩ => ?_
  simp only [evt] at em
  refine bindO s em p.exc0 fun x ρ1 e1 e2 F1 fp1 H1 v f af rl => ?_
  simp only [M.opt] at e2
  cases hv : x.val with
  | none => rw [hv] at e2; cases e2
  | some d =>
    rw [hv] at e2
    simp only [Option.bind_some] at e2
    cases ht : truthD c d with
    | none => rw [ht] at e2; cases e2
    | some b =>
      rw [ht] at e2
      simp only [Option.some.injEq] at e2
      subst e2
      exact ⟨b, tru_of hG (SlR.rep1 rl hv) ht, p F1 fp1 H1 b [] af.drop ⟨rfl, rfl⟩⟩
theorem bt_loc {pe : Expr} {i : Nat} {fs : List String} {m : M R} (hG : G = ⟨X.K, A.ca, A.fa⟩) (h : PE X pe (tM Js G W (RlA G) (argM (.loc i fs) m))) (hp : ∀ whole, isTrue pe X.env whole = (do let v ← whole; standAt pe.pos; holding [v] (truthy v))) : PT X pe (tT Js G W (evt c (.tloc i fs))) := by
  refine PT.weak (pt_truth h hp) fun σ H Q ⟨F, ρ, fp, res, s, em, p⟩ => ?_
  simp only [evt] at em
  cases hg : getL ρ i fs with
  | none => rw [hg] at em; cases em
  | some r =>
    rw [hg] at em
    simp only [Option.bind_some] at em
    cases hv : r.val with
    | none => rw [hv] at em; cases em
    | some d =>
      rw [hv] at em
      simp only at em
      cases ht : truthD c d with
      | none => rw [ht] at em; cases em
      | some b =>
        rw [ht] at em
        simp only [Option.some.injEq] at em
        subst em
        refine ⟨F, ρ, fp, (.ok (.p i fs), ρ), s, by simp only [argM, hg], fun F1 fp1 H1 v f af rl => ?_⟩
        refine ⟨b, tru_of hG (RlA.rep1 (d := d) af.sto rl ?_) ht, p F1 fp1 H1 b [] af.drop ⟨rfl, rfl⟩⟩
        simp only [argD, hg, Option.bind_some, hv]
/-- a comparison as a test -/
theorem bt_cmp {a b : E} {pa pb : Expr} {op : CmpOp} {pos : Pos} {r : R2} (ho : OpR X (compareOp op) r) (hs : Sound2 G W c p r) (ha : PE X pa (tM Js G W (RlA G) (argM a (ev c a)))) (hb : PE X pb (tM Js G W (RlA G) (argM b (ev c b)))) (hm : behindInMarks op pb = false)
    (hbl : ∀ d e res, prim c p [d, e] = some res → ∃ k, res = .ok (.d (.bl k))) : PT X (.Compare pa [op] [pb] pos) (tT Js G W (evt c (.tval (.prim p [a, b])))) := by
  refine PT.weak (pt_cmpR ho ha hb hm) fun σ H Q ⟨F, ρ, fp, res, s, em, p'⟩ => ?_
  simp only [evt] at em
  rw [ev_prim2, M.bind_assoc] at em
  refine bindO s em p'.exc0 fun x ρ1 em e1 F1 fp1 H1 v f af rl => ?_
  rw [M.bind_assoc] at e1
  refine bindO af.sto e1 (p'.exc af) fun y ρ2 em2 e2 F2 fp2 H2 u f2 af2 rl2 => ?_
  simp only [M.bind] at e2
  cases hd : argsD ρ2 [x, y] with
  | none => rw [hd] at e2; cases e2
  | some l =>
    rw [hd] at e2
    obtain ⟨d1, d2, h1, h2, rfl⟩ := argsD2 hd
    simp only [M.lift] at e2
    cases hp : prim c p [d1, d2] with
    | none => rw [hp] at e2; cases e2
    | some r0 =>
      rw [hp] at e2
      obtain ⟨k, rfl⟩ := hbl _ _ _ hp
      simp only [M.opt, R.val, Option.bind_some, truthD, Option.some.injEq] at e2
      subst e2
      have a2 := af.trans af2
      refine hs σ F2 H2 d1 d2 v u _ _ a2.sto.fr hp (RlA.rep1 (ρ1 := ρ2) a2.sto (rl.step af.sto af2.st af.tmp) h1) (RlA.rep1 a2.sto rl2 h2) ?_
      intro F3 H3 z f3 g3 sl
      simp only [SlR, Rep] at sl
      obtain ⟨rfl, rfl⟩ := sl
      exact ⟨k, rfl, p' F3 fp2 H3 k [] (a2.grow g3) ⟨rfl, rfl⟩⟩
theorem bw_and1 {pa : Expr} {pos : Pos} {a : E} (ha : PT X pa (tT Js G W (evt c a))) : PW X (.BoolOp .And [pa] pos) (tT Js G W (evt c a)) := pw_and1 ha
theorem bw_or1 {pa : Expr} {pos : Pos} {a : E} (ha : PT X pa (tT Js G W (evt c a))) : PW X (.BoolOp .Or [pa] pos) (tT Js G W (evt c a)) := pw_or1 ha
theorem PW.weak {e : Expr} {t t' : TT} (h : PW X e t) (w : ∀ σ H Q, t' σ H Q → t σ H Q) : PW X e t' := ⟨fun wh pins s σ H Q I q => h.run wh pins s σ H Q I (w σ H Q q)⟩
theorem bw_and2 {pa pb : Expr} {rest : List Expr} {pos : Pos} {a b : E} (ha : PT X pa (tT Js G W (evt c a))) (hb : PW X (.BoolOp .And (pb :: rest) pos) (tT Js G W (evt c b))) : PW X (.BoolOp .And (pa :: pb :: rest) pos) (tT Js G W (evt c (.tand a b))) :=
  PW.weak (pw_and ha hb) fun _ _ _ q => tAnd_of q
theorem bw_or2 {pa pb : Expr} {rest : List Expr} {pos : Pos} {a b : E} (ha : PT X pa (tT Js G W (evt c a))) (hb : PW X (.BoolOp .Or (pb :: rest) pos) (tT Js G W (evt c b))) : PW X (.BoolOp .Or (pa :: pb :: rest) pos) (tT Js G W (evt c (.tor a b))) :=
  PW.weak (pw_or ha hb) fun _ _ _ q => tOr_of q

/-! ### in -/
theorem flat_of {d : D} {v : V} (h : okP d 0 = true) (r : Rep1 G F H d v) : flatV v = true := by
  cases d with
  | non => rw [rep1_non r]; rfl
  | bl b => rw [rep1_bl r]; rfl
  | int i => rw [rep1_int r]; rfl
  | str s => rw [rep1_str r]; rfl
  | _ => simp [okP] at h
theorem flats_of : ∀ {ds : List D} {vs : List V}, okPs ds 0 = true → Reps G F H ds vs → vs.all flatV = true
  | [], _, _, r => by simp only [Reps] at r; subst r; rfl
  | d :: q, _, h, r => by
    simp only [Reps] at r
    obtain ⟨v, w, rfl, r1, r2⟩ := r
    simp only [okPs, Bool.and_eq_true] at h
    simp only [List.all_cons, flat_of h.1 r1.rep1, flats_of h.2 r2, Bool.and_self]
theorem eqV_of {d e : D} {v u : V} {b : Bool} (h1 : okP d 0 = true) (h2 : okP e 0 = true) (r1 : Rep1 G F H d v) (r2 : Rep1 G F H e u) (h : eqD c d e = some b) : eqV v u = b := by
  cases d <;> first | (exfalso; simp [okP] at h1; done) | skip
  all_goals cases e <;> first | (exfalso; simp [okP] at h2; done) | (simp [eqD] at h; done) | skip
  all_goals simp only [eqD, Option.some.injEq] at h
  all_goals subst h
  all_goals first
    | (rw [rep1_str r1, rep1_str r2]; exact toS_beq)
    | ((first | rw [rep1_non r1] | rw [rep1_bl r1] | rw [rep1_int r1] | rw [rep1_str r1]); (first | rw [rep1_non r2] | rw [rep1_bl r2] | rw [rep1_int r2] | rw [rep1_str r2]); rfl)
theorem inV_of : ∀ {ds : List D} {vs : List V} {x : D} {u : V} {b : Bool}, okP x 0 = true → okPs ds 0 = true → Rep1 G F H x u → Reps G F H ds vs → anyEq c x ds = some b → inV u vs = b
  | [], _, _, _, _, _, _, _, r, h => by
    simp only [Reps] at r
    subst r
    simp only [anyEq, Option.some.injEq] at h
    subst h
    rfl
  | d :: q, _, x, u, b, h1, h2, rx, r, h => by
    simp only [Reps] at r
    obtain ⟨v, w, rfl, r1, r2⟩ := r
    simp only [okPs, Bool.and_eq_true] at h2
    simp only [anyEq] at h
    show (eqV v u || inV u w) = b
    cases e : eqD c d x with
    | none => rw [e] at h; cases h
    | some k =>
      rw [e] at h
      rw [eqV_of h2.1 h1 r1.rep1 rx e]
      cases k with
      | true => simp only [Option.some.injEq] at h; subst h; rfl
      | false => simp only at h; rw [inV_of h1 h2.2 rx r2 h]; rfl
theorem any_of : ∀ {ds : List D} {x : D} {n m : Nat} {b : Bool}, okP x n = true → okPs ds m = true → anyEq c x ds = some b → ((toPs ds).any fun z => PyData.eqv z (toP x)) = b
  | [], _, _, _, _, _, _, h => by
    simp only [anyEq, Option.some.injEq] at h
    subst h
    rfl
  | d :: q, x, n, m, b, h1, h2, h => by
    simp only [okPs, Bool.and_eq_true] at h2
    simp only [anyEq] at h
    simp only [toPs, List.any_cons]
    cases e : eqD c d x with
    | none => rw [e] at h; cases h
    | some k =>
      rw [e] at h
      rw [eqv_of h2.1 h1 e]
      cases k with
      | true => simp only [Option.some.injEq] at h; subst h; rfl
      | false => simp only at h; rw [any_of h1 h2.2 h]; rfl
theorem in_cases {d e : D} {b : Bool} (h : inD c d e = some b) : (∃ ds, e = .tup ds ∧ okP d 0 = true ∧ okPs ds 0 = true ∧ anyEq c d ds = some b) ∨ (∃ ds, e = .lst ds ∧ okP d 60 = true ∧ okPs ds 59 = true ∧ anyEq c d ds = some b) ∨
    (∃ s t, d = .str [s] ∧ e = .str t ∧ b = t.contains s) := by
  unfold inD at h
  split at h
  · split at h
    · rename_i g; simp only [Bool.and_eq_true] at g; exact .inl ⟨_, rfl, g.1, g.2, h⟩
    · cases h
  · split at h
    · rename_i g; simp only [Bool.and_eq_true] at g; exact .inr (.inl ⟨_, rfl, g.1, g.2, h⟩)
    · cases h
  · split at h
    · exact .inr (.inr ⟨_, _, rfl, rfl, (Option.some.inj h).symm⟩)
    · cases h
  · cases h
end
end Mini
/-! Mini, part O: in, builtin calls, places of a list. -/
namespace Mini
open PySem L2

section
variable {X : Cx} {Js : SP} {G : Gs} {W : WX} {c : Ctx} {p : Pr} {F : Addr → Prop} {H : Hp} {Q : VK} {σ : L2.St} {A : Adr}
theorem mem_toS {s : Nat} {t : Cs} : decide (s ∈ (toS t).cps.toList) = t.contains s := by
  show decide (s ∈ t.toArray.toList) = _
  simp
theorem op_in_ok (hG : G = ⟨X.K, A.ca, A.fa⟩) (hu : X.A.units + 65 < cLine) : OpR X (compareOp .In) (rP G W c .in_) :=
  OpR.weak (OpR.or op_in_seq (OpR.or (op_inD hu) op_in_sign)) fun x y H Q ⟨σ, F, d, e, res, al, hp, r1, r2, pp⟩ => by
    simp only [prim] at hp
    obtain ⟨b, hb, rfl⟩ := okB_eq hp
    rcases in_cases hb with ⟨ds, rfl, g1, g2, h⟩ | ⟨ds, rfl, g1, g2, h⟩ | ⟨s, t, rfl, rfl, rfl⟩
    · obtain ⟨a, vs, rfl, q, rs⟩ := rep1_tup hG r2
      refine .inl ⟨a, vs, rfl, .inr q, flat_of g1 r1, flats_of g2 rs, ?_⟩
      simp only [Bool.false_eq_true, if_false]
      rw [inV_of g1 g2 r1 rs h]
      exact pp.bl al
    · have g3 : okP (.lst ds) 60 = true := by simpa [okP] using g2
      refine .inr (.inl ⟨toP d, toPs ds, dp_of1 hG g1 r1, dp_of1 hG g3 r2, shaped_of g1, shaped_of g3, ?_⟩)
      rw [any_of g1 g2 h]
      exact pp.bl al
    · refine .inr (.inr ⟨s, toS t, rep1_str r1, rep1_str r2, ?_⟩)
      rw [mem_toS]
      exact pp.bl al
theorem op_notin_ok (hG : G = ⟨X.K, A.ca, A.fa⟩) (hu : X.A.units + 65 < cLine) : OpR X (compareOp .NotIn) (rP G W c .notin) :=
  OpR.weak (OpR.or op_notIn_seq (OpR.or (op_notInD hu) op_notIn_sign)) fun x y H Q ⟨σ, F, d, e, res, al, hp, r1, r2, pp⟩ => by
    simp only [prim] at hp
    obtain ⟨b', hb', rfl⟩ := okB_eq hp
    cases hb : inD c d e with
    | none => rw [hb] at hb'; cases hb'
    | some b =>
      rw [hb] at hb'
      simp only [Option.map_some, Option.some.injEq] at hb'
      subst hb'
      rcases in_cases hb with ⟨ds, rfl, g1, g2, h⟩ | ⟨ds, rfl, g1, g2, h⟩ | ⟨s, t, rfl, rfl, rfl⟩
      · obtain ⟨a, vs, rfl, q, rs⟩ := rep1_tup hG r2
        refine .inl ⟨a, vs, rfl, .inr q, flat_of g1 r1, flats_of g2 rs, ?_⟩
        simp only [if_true]
        rw [inV_of g1 g2 r1 rs h]
        exact pp.bl al
      · have g3 : okP (.lst ds) 60 = true := by simpa [okP] using g2
        refine .inr (.inl ⟨toP d, toPs ds, dp_of1 hG g1 r1, dp_of1 hG g3 r2, shaped_of g1, shaped_of g3, ?_⟩)
        rw [any_of g1 g2 h]
        exact pp.bl al
      · refine .inr (.inr ⟨s, toS t, rep1_str r1, rep1_str r2, ?_⟩)
        rw [mem_toS]
        exact pp.bl al

/-! ### builtin calls -/
theorem lP_one {vs : List V} (h : lP G W c p vs H Q) (ar : ∀ ds res, prim c p ds = some res → ∃ d, ds = [d]) : ∃ σ F d v res, vs = [v] ∧ (∀ b, F b → H b ≠ none) ∧ prim c p [d] = some res ∧ Rep1 G F H d v ∧ PP G W σ F H res Q := by
  obtain ⟨σ, F, ds, res, al, hp, r, pp⟩ := h
  obtain ⟨d, rfl⟩ := ar ds res hp
  obtain ⟨v, rfl, r1⟩ := rep1s_one r
  exact ⟨σ, F, d, v, res, rfl, al, hp, r1, pp⟩
theorem prim_len {ds : List D} {res : Rs R} (h : prim c .len ds = some res) : ∃ d, ds = [d] := by
  cases ds with
  | nil => simp [prim] at h
  | cons a r => cases r with
    | nil => exact ⟨a, rfl⟩
    | cons b r => simp [prim] at h
theorem call_len_ok (hG : G = ⟨X.K, A.ca, A.fa⟩) : CallR X (.builtin "len") (lP G W c .len) := CallR.weak call_len fun vs H Q h => by
  obtain ⟨σ, F, d, v, res, rfl, al, hp, r, pp⟩ := lP_one h fun _ _ => prim_len
  cases d <;> simp only [prim] at hp <;> first | (cases hp; done) | skip
  · rename_i s
    obtain ⟨g, hp⟩ := guardR_eq hp
    have e := okd_eq hp
    subst e
    refine ⟨v, s.length, rfl, ?_, pp.int al⟩
    rw [rep1_str r]
    exact ⟨by rw [toS_len]; exact Nat.le_trans (of_decide_eq_true g) sizeMax_le, toS_len.symm⟩
  · rename_i ds
    have e := okd_eq hp
    subst e
    obtain ⟨a, ws, rfl, q, rs⟩ := rep1_tup hG r
    exact ⟨.ref a, ds.length, rfl, .inr ⟨ws, q, rs.length⟩, pp.int al⟩
  · rename_i ds
    have e := okd_eq hp
    subst e
    obtain ⟨a, ws, rfl, q, rs⟩ := rep1_lst hG r
    exact ⟨.ref a, ds.length, rfl, .inl ⟨ws, q, rs.length⟩, pp.int al⟩
theorem prim_one {ds : List D} {res : Rs R} (hp : p = .int ∨ p = .str ∨ p = .tuple ∨ p = .list ∨ p = .sorted ∨ p = .sum ∨ p = .any ∨ p = .all) (h : prim c p ds = some res) : ∃ d, ds = [d] := by
  cases ds with
  | nil => rcases hp with rfl | rfl | rfl | rfl | rfl | rfl | rfl | rfl <;> simp [prim] at h
  | cons a r => cases r with
    | nil => exact ⟨a, rfl⟩
    | cons b r => rcases hp with rfl | rfl | rfl | rfl | rfl | rfl | rfl | rfl <;> simp [prim] at h
theorem call_int_ok : CallR X (.type "int") (lP G W c .int) := CallR.weak call_int1 fun vs H Q h => by
  obtain ⟨σ, F, d, v, res, rfl, al, hp, r, pp⟩ := lP_one h fun _ _ => prim_one (by simp)
  cases d <;> simp only [prim] at hp <;> first | (cases hp; done) | skip
  · have e := okd_eq hp
    subst e
    exact .inr ⟨_, by rw [rep1_bl r], pp.int al⟩
  · have e := okd_eq hp
    subst e
    exact .inl ⟨_, by rw [rep1_int r], pp.int al⟩
theorem call_tuple_ok (hG : G = ⟨X.K, A.ca, A.fa⟩) : CallR X (.type "tuple") (lP G W c .tuple) := CallR.weak call_tuple_of fun vs H Q h => by
  obtain ⟨σ, F, d, v, res, rfl, al, hp, r, pp⟩ := lP_one h fun _ _ => prim_one (by simp)
  cases d <;> simp only [prim] at hp <;> first | (cases hp; done) | skip
  · have e := okd_eq hp
    subst e
    obtain ⟨a, ws, rfl, q, rs⟩ := rep1_tup hG r
    exact ⟨a, ws, rfl, .inr ⟨q, pp F H (.ref a) [] (.refl al) (by simp only [SlR]; exact ⟨trivial, by simpa [Rep1] using r⟩)⟩⟩
  · have e := okd_eq hp
    subst e
    obtain ⟨a, ws, rfl, q, rs⟩ := rep1_lst hG r
    exact ⟨a, ws, rfl, .inl ⟨q, pp.tup al rs⟩⟩
theorem call_list_ok (hG : G = ⟨X.K, A.ca, A.fa⟩) : CallR X (.type "list") (lP G W c .list) := CallR.weak call_list_of fun vs H Q h => by
  obtain ⟨σ, F, d, v, res, rfl, al, hp, r, pp⟩ := lP_one h fun _ _ => prim_one (by simp)
  cases d <;> simp only [prim] at hp <;> first | (cases hp; done) | skip
  · rename_i ds
    have e : res = .ok (.own (.lst ds)) := (Option.some.inj hp).symm
    subst e
    obtain ⟨a, ws, rfl, q, rs⟩ := rep1_tup hG r
    exact ⟨a, ws, rfl, .inr q, pp.lst al rs⟩
  · rename_i ds
    have e : res = .ok (.own (.lst ds)) := (Option.some.inj hp).symm
    subst e
    obtain ⟨a, ws, rfl, q, rs⟩ := rep1_lst hG r
    exact ⟨a, ws, rfl, .inl q, pp.lst al rs⟩
theorem ints_of : ∀ {ds : List D} {vs : List V} {x : List Int}, Reps G F H ds vs → intsOf ds = some x → vs = x.map V.int
  | [], _, _, r, h => by
    simp only [Reps] at r
    simp only [intsOf, Option.some.injEq] at h
    subst h; subst r; rfl
  | d :: q, _, x, r, h => by
    simp only [Reps] at r
    obtain ⟨v, w, rfl, r1, r2⟩ := r
    cases d <;> simp only [intsOf] at h <;> first | (cases h; done) | skip
    cases e : intsOf q with
    | none => rw [e] at h; cases h
    | some l =>
      rw [e] at h
      simp only [Option.some.injEq] at h
      subst h
      rw [rep1_int r1.rep1, ints_of r2 e]
      rfl
theorem bls_of : ∀ {ds : List D} {vs : List V} {x : List Bool}, Reps G F H ds vs → blsOf ds = some x → vs = x.map V.bl
  | [], _, _, r, h => by
    simp only [Reps] at r
    simp only [blsOf, Option.some.injEq] at h
    subst h; subst r; rfl
  | d :: q, _, x, r, h => by
    simp only [Reps] at r
    obtain ⟨v, w, rfl, r1, r2⟩ := r
    cases d <;> simp only [blsOf] at h <;> first | (cases h; done) | skip
    cases e : blsOf q with
    | none => rw [e] at h; cases h
    | some l =>
      rw [e] at h
      simp only [Option.some.injEq] at h
      subst h
      rw [rep1_bl r1.rep1, bls_of r2 e]
      rfl
theorem strs_of : ∀ {ds : List D} {vs : List V} {x : List Cs}, Reps G F H ds vs → strsOf ds = some x → vs = (x.map toS).map V.str
  | [], _, _, r, h => by
    simp only [Reps] at r
    simp only [strsOf, Option.some.injEq] at h
    subst h; subst r; rfl
  | d :: q, _, x, r, h => by
    simp only [Reps] at r
    obtain ⟨v, w, rfl, r1, r2⟩ := r
    cases d <;> simp only [strsOf] at h <;> first | (cases h; done) | skip
    cases e : strsOf q with
    | none => rw [e] at h; cases h
    | some l =>
      rw [e] at h
      simp only [Option.some.injEq] at h
      subst h
      rw [rep1_str r1.rep1, strs_of r2 e]
      rfl
theorem call_sum_ok (hG : G = ⟨X.K, A.ca, A.fa⟩) (hc : X.calm = true) : CallR X (.builtin "sum") (lP G W c .sum) := CallR.weak (cr_sum hc) fun vs H Q h => by
  obtain ⟨σ, F, d, v, res, rfl, al, hp, r, pp⟩ := lP_one h fun _ _ => prim_one (by simp)
  cases d <;> simp only [prim] at hp <;> first | (cases hp; done) | skip
  rename_i ds
  obtain ⟨a, ws, rfl, q, rs⟩ := rep1_lst hG r
  cases e : intsOf ds with
  | none => rw [e] at hp; cases hp
  | some x =>
    rw [e] at hp
    have e1 := okd_eq hp
    subst e1
    exact ⟨a, x, rfl, by rw [← ints_of rs e]; exact q, pp.int al⟩
theorem call_any_ok (hG : G = ⟨X.K, A.ca, A.fa⟩) (hc : X.calm = true) : CallR X (.builtin "any") (lP G W c .any) := CallR.weak (cr_any hc) fun vs H Q h => by
  obtain ⟨σ, F, d, v, res, rfl, al, hp, r, pp⟩ := lP_one h fun _ _ => prim_one (by simp)
  cases d <;> simp only [prim] at hp <;> first | (cases hp; done) | skip
  rename_i ds
  obtain ⟨a, ws, rfl, q, rs⟩ := rep1_lst hG r
  cases e : blsOf ds with
  | none => rw [e] at hp; cases hp
  | some x =>
    rw [e] at hp
    have e1 := okd_eq hp
    subst e1
    exact ⟨a, x, rfl, by rw [← bls_of rs e]; exact q, pp.bl al⟩
theorem call_all_ok (hG : G = ⟨X.K, A.ca, A.fa⟩) (hc : X.calm = true) : CallR X (.builtin "all") (lP G W c .all) := CallR.weak (cr_all hc) fun vs H Q h => by
  obtain ⟨σ, F, d, v, res, rfl, al, hp, r, pp⟩ := lP_one h fun _ _ => prim_one (by simp)
  cases d <;> simp only [prim] at hp <;> first | (cases hp; done) | skip
  rename_i ds
  obtain ⟨a, ws, rfl, q, rs⟩ := rep1_lst hG r
  cases e : blsOf ds with
  | none => rw [e] at hp; cases hp
  | some x =>
    rw [e] at hp
    have e1 := okd_eq hp
    subst e1
    exact ⟨a, x, rfl, by rw [← bls_of rs e]; exact q, pp.bl al⟩
theorem call_max_ok (hc : X.calm = true) : CallR X (.builtin "max") (lP G W c .max) := CallR.weak (call_max2 hc) fun vs H Q ⟨σ, F, ds, res, al, hp, r, pp⟩ => by
  unfold prim at hp
  split at hp <;> first | (cases hp; done) | skip
  all_goals first | contradiction | skip
  rename_i i j _
  obtain ⟨v, u, rfl, r1, r2⟩ := rep1s_two r
  have e1 := okd_eq hp
  subst e1
  exact ⟨i, j, by rw [rep1_int r1, rep1_int r2], pp.int al⟩
theorem call_min_ok (hc : X.calm = true) : CallR X (.builtin "min") (lP G W c .min) := CallR.weak (call_min2 hc) fun vs H Q ⟨σ, F, ds, res, al, hp, r, pp⟩ => by
  unfold prim at hp
  split at hp <;> first | (cases hp; done) | skip
  all_goals first | contradiction | skip
  rename_i i j _
  obtain ⟨v, u, rfl, r1, r2⟩ := rep1s_two r
  have e1 := okd_eq hp
  subst e1
  exact ⟨i, j, by rw [rep1_int r1, rep1_int r2], pp.int al⟩
end
end Mini
/-! Mini, part P: dicts by keys, places, texts. -/
namespace Mini
open PySem L2

section
variable {X : Cx} {Js : SP} {G : Gs} {W : WX} {c : Ctx} {p : Pr} {F : Addr → Prop} {H : Hp} {Q : VK} {σ : L2.St} {A : Adr}
theorem PE.or {X : Cx} {e : Expr} {t t' : TE} (h : PE X e t) (h' : PE X e t') : PE X e (fun σ H Q => t σ H Q ∨ t' σ H Q) :=
  ⟨fun pins s σ H Q I q => q.elim (h.run pins s σ H Q I) (h'.run pins s σ H Q I)⟩
theorem IxR.or {r r' : R2} (a : IxR X r) (b : IxR X r') : IxR X (fun x y H Q => r x y H Q ∨ r' x y H Q) := fun v1 v2 pins s σ H x y v u Q I rx ry h =>
  h.elim (a v1 v2 pins s σ H x y v u Q I rx ry) (b v1 v2 pins s σ H x y v u Q I rx ry)

/-! ### keys -/
theorem keyR_eq {d e : D} {k j : Key} (h : keyR d k) (q : keyR e j) : D.beq d e = decide (k = j) := by
  cases d <;> cases k <;> first | (exact h.elim) | skip
  all_goals cases e <;> cases j <;> first | (exact q.elim) | skip
  all_goals simp only [keyR] at h q
  all_goals subst h
  all_goals subst q
  · rename_i a b
    simp only [D.beq]
    by_cases e : a = b <;> simp [e]
  · simp [D.beq]
  · simp [D.beq]
  · rename_i a b
    simp only [D.beq]
    by_cases e : a = b
    · subst e; simp
    · have : toS a ≠ toS b := fun q => e (toS_inj q)
      simp [e, this]
theorem keysR_eq : ∀ {ds es : List D} {ks js : List Key}, keysR ds ks → keysR es js → D.beqs ds es = decide (ks = js)
  | [], [], ks, js, h, q => by
    simp only [keysR] at h q
    subst h; subst q
    simp [D.beqs]
  | [], e :: es, ks, js, h, q => by
    simp only [keysR] at h
    obtain ⟨k, r, rfl, _⟩ := q
    subst h
    simp [D.beqs]
  | d :: ds, [], ks, js, h, q => by
    simp only [keysR] at q
    obtain ⟨k, r, rfl, _⟩ := h
    subst q
    simp [D.beqs]
  | d :: ds, e :: es, ks, js, h, q => by
    obtain ⟨k, r, rfl, h1, h2⟩ := h
    obtain ⟨j, r', rfl, q1, q2⟩ := q
    simp only [D.beqs, keyR_eq h1 q1, keysR_eq h2 q2]
    by_cases e1 : k = j <;> by_cases e2 : r = r' <;> simp [e1, e2]
theorem keyT_eq {d e : D} {k j : List Key} (h : keyT d k) (q : keyT e j) : D.beq d e = decide (k = j) := by
  cases d <;> first | (exact h.elim) | skip
  cases e <;> first | (exact q.elim) | skip
  simp only [D.beq]
  exact keysR_eq h q
theorem key_of {d : D} {v : V} (h : isKey d = true) (r : Rep1 G F H d v) : (∃ k, keyR d k ∧ v = kV k) ∨ ∃ ks b, keyT d ks ∧ v = .ref b ∧ H b = some (.tup (ks.map kV)) := by
  have flat : ∀ {d : D} {v : V}, flatKey d = true → Rep1 G F H d v → ∃ k, keyR d k ∧ v = kV k := fun {d v} h r => by
    cases d with
    | int i => exact ⟨.inl i, rfl, rep1_int r⟩
    | str s => exact ⟨.inr (toS s), rfl, rep1_str r⟩
    | _ => simp [flatKey] at h
  cases d with
  | int i => exact .inl (flat rfl r)
  | str s => exact .inl (flat rfl r)
  | tup ds =>
    have all : ∀ {ds : List D} {vs : List V}, ds.all flatKey = true → Reps G F H ds vs → ∃ ks, keysR ds ks ∧ vs = ks.map kV := by
      intro ds
      induction ds with
      | nil => intro vs _ r; simp only [Reps] at r; subst r; exact ⟨[], rfl, rfl⟩
      | cons d q ih =>
        intro vs h r
        simp only [Reps] at r
        obtain ⟨v, w, rfl, r1, r2⟩ := r
        simp only [List.all_cons, Bool.and_eq_true] at h
        obtain ⟨k, k1, rfl⟩ := flat h.1 r1.rep1
        obtain ⟨ks, k2, rfl⟩ := ih h.2 r2
        exact ⟨k :: ks, ⟨k, ks, rfl, k1, k2⟩, rfl⟩
    simp only [Rep1, Rep] at r
    obtain ⟨b, vs, rfl, pl, rs⟩ := r
    obtain ⟨ks, k1, rfl⟩ := all (by simpa [isKey] using h) rs
    refine .inr ⟨ks, b, k1, rfl, ?_⟩
    rcases pl with ⟨_, pl⟩ | pl
    · exact pl
    · exact pl.elim
  | _ => simp [isKey] at h
theorem getK_of : ∀ {kvs : List (D × D)} {ks : List (Key × V)} {d : D} {k : Key}, RepK G F H kvs ks → keyR d k →
    (∀ x, dGet d kvs = some x → ∃ v, valV ks k = some v ∧ Rep G F H x v) ∧ (dGet d kvs = none → valV ks k = none)
  | [], _, _, _, h, _ => by
    simp only [RepK] at h
    subst h
    exact ⟨fun x e => by simp [dGet] at e, fun _ => rfl⟩
  | p :: r, _, d, k, h, hk => by
    simp only [RepK] at h
    obtain ⟨j, v, q, rfl, hp, hr⟩ := h
    obtain ⟨a, x⟩ := p
    simp only [RepKp] at hp
    have e := keyR_eq hp.1 hk
    obtain ⟨i1, i2⟩ := getK_of hr hk
    simp only [dGet, e]
    by_cases z : j = k
    · subst z
      simp only [decide_true, if_true]
      refine ⟨fun y e => ?_, fun e => by cases e⟩
      simp only [Option.some.injEq] at e
      subst e
      exact ⟨v, by simp [valV], hp.2⟩
    · simp only [z, decide_false, Bool.false_eq_true, if_false]
      have : valV ((j, v) :: q) k = valV q k := by simp [valV, z]
      rw [this]
      exact ⟨i1, i2⟩
theorem getT_of : ∀ {kvs : List (D × D)} {ks : List (List Key × V)} {d : D} {k : List Key}, RepT G F H kvs ks → keyT d k →
    (∀ x, dGet d kvs = some x → ∃ v, valV ks k = some v ∧ Rep G F H x v) ∧ (dGet d kvs = none → valV ks k = none)
  | [], _, _, _, h, _ => by
    simp only [RepT] at h
    subst h
    exact ⟨fun x e => by simp [dGet] at e, fun _ => rfl⟩
  | p :: r, _, d, k, h, hk => by
    simp only [RepT] at h
    obtain ⟨j, v, q, rfl, hp, hr⟩ := h
    obtain ⟨a, x⟩ := p
    simp only [RepTp] at hp
    have e := keyT_eq hp.1 hk
    obtain ⟨i1, i2⟩ := getT_of hr hk
    simp only [dGet, e]
    by_cases z : j = k
    · subst z
      simp only [decide_true, if_true]
      refine ⟨fun y e => ?_, fun e => by cases e⟩
      simp only [Option.some.injEq] at e
      subst e
      exact ⟨v, by simp [valV], hp.2⟩
    · simp only [z, decide_false, Bool.false_eq_true, if_false]
      have : valV ((j, v) :: q) k = valV q k := by simp [valV, z]
      rw [this]
      exact ⟨i1, i2⟩
theorem keyRT {d : D} {k : Key} {ks : List Key} (h : keyR d k) (q : keyT d ks) : False := by
  cases d <;> cases k <;> first | exact h | exact q
theorem beqRT {d e : D} {k : Key} {ks : List Key} (h : keyR d k) (q : keyT e ks) : D.beq d e = false := by
  cases d <;> cases k <;> first | (exact h.elim) | skip
  all_goals cases e <;> first | (exact q.elim) | rfl
theorem beqTR {d e : D} {k : Key} {ks : List Key} (q : keyT d ks) (h : keyR e k) : D.beq d e = false := by
  cases e <;> cases k <;> first | (exact h.elim) | skip
  all_goals cases d <;> first | (exact q.elim) | rfl
theorem noneK : ∀ {kvs : List (D × D)} {ks : List (Key × V)} {d : D} {k : List Key}, RepK G F H kvs ks → keyT d k → dGet d kvs = none
  | [], _, _, _, _, _ => rfl
  | p :: r, _, d, k, h, hk => by
    simp only [RepK] at h
    obtain ⟨j, v, q, rfl, hp, hr⟩ := h
    obtain ⟨a, x⟩ := p
    simp only [RepKp] at hp
    simp only [dGet, beqRT hp.1 hk, Bool.false_eq_true, if_false]
    exact noneK hr hk
theorem noneT : ∀ {kvs : List (D × D)} {ks : List (List Key × V)} {d : D} {k : Key}, RepT G F H kvs ks → keyR d k → dGet d kvs = none
  | [], _, _, _, _, _ => rfl
  | p :: r, _, d, k, h, hk => by
    simp only [RepT] at h
    obtain ⟨j, v, q, rfl, hp, hr⟩ := h
    obtain ⟨a, x⟩ := p
    simp only [RepTp] at hp
    simp only [dGet, beqTR hp.1 hk, Bool.false_eq_true, if_false]
    exact noneT hr hk
/-- d[k], the key is there -/
theorem dget_of {kvs : List (D × D)} {d x : D} {v u : V} (r1 : Rep1 G F H (.dic kvs) v) (hk : isKey d = true) (r2 : Rep1 G F H d u) (e : dGet d kvs = some x) : ∃ a y, v = .ref a ∧ DGet H a u (some y) ∧ Rep G F H x y := by
  obtain ⟨a, rfl, pl⟩ := r1
  rcases key_of hk r2 with ⟨k, k1, rfl⟩ | ⟨ks, b, k1, rfl, hb⟩
  · rcases pl with ⟨l, rd, rk⟩ | ⟨l, rd, rk⟩
    · obtain ⟨y, e1, r⟩ := (getK_of rk k1).1 x e
      exact ⟨a, y, rfl, .inl ⟨l, k, rd, rfl, e1.symm⟩, r⟩
    · rw [noneT rk k1] at e; cases e
  · rcases pl with ⟨l, rd, rk⟩ | ⟨l, rd, rk⟩
    · rw [noneK rk k1] at e; cases e
    · obtain ⟨y, e1, r⟩ := (getT_of rk k1).1 x e
      exact ⟨a, y, rfl, .inr ⟨l, ks, b, rd, rfl, hb, e1.symm⟩, r⟩

/-! ### x[i] -/
theorem ixNat_eq {n : Nat} {i : Int} : ixNat n i = ixN n i := by
  unfold ixNat ixN
  by_cases h0 : 0 ≤ i
  · simp only [h0, true_and, if_true]
    by_cases h1 : i < n
    · simp [h1]
    · simp only [h1, if_false]
      rw [if_neg (by omega)]
  · simp only [h0, false_and, if_false]
    by_cases h1 : -(n : Int) ≤ i
    · rw [if_pos (by omega), if_pos h1]
    · rw [if_neg (by omega), if_neg h1]
theorem atI_of {ds : List D} {vs : List V} {i : Int} {d : D} (r : Reps G F H ds vs) (e : (ixNat ds.length i).bind (ds[·]?) = some d) : ∃ v, atI vs i = some v ∧ Rep G F H d v := by
  rw [ixNat_eq, r.length] at e
  cases h : ixN vs.length i with
  | none => rw [h] at e; cases e
  | some j =>
    rw [h] at e
    obtain ⟨v, e1, r1⟩ := r.get e
    exact ⟨v, by unfold atI; rw [h]; exact e1, r1⟩
theorem bw_ix {a b : E} {pa pb : Expr} {pos : Pos} (hG : G = ⟨X.K, A.ca, A.fa⟩) (hu : X.A.units + 1 < cLine) (ha : PE X pa (tM Js G W (RlA G) (argM a (ev c a)))) (hb : PE X pb (tM Js G W (RlA G) (argM b (ev c b)))) (hs : PlainIx pb) :
    PE X (.Subscript pa pb pos) (tE Js G W (ev c (.prim .ix [a, b]))) := by
  refine PE.weak (PE.or (pe_ix (IxR.or ix_list (IxR.or ix_tup ix_str)) ha hb hs) (pe_dget hu ha hb hs)) fun σ H Q ⟨F, ρ, fp, res, s, em, p'⟩ => ?_
  rw [ev_prim2] at em
  -- what the first is
  have main : ∀ (K : V → V → Hp → Prop), (∀ F2 H2 d1 d2 v u r0, (∀ x, F2 x → H2 x ≠ none) → prim c .ix [d1, d2] = some r0 → Rep1 G F2 H2 d1 v → Rep1 G F2 H2 d2 u → PP G W σ F2 H2 r0 Q → ∀ x1 ρ1 y1 ρ2, argM a (ev c a) ρ = some (.ok x1, ρ1) → argM b (ev c b) ρ1 = some (.ok y1, ρ2) → argsD ρ2 [x1, y1] = some [d1, d2] → K v u H2) →
      (tM Js G W (RlA G) (argM a (ev c a))) σ H fun x H1 => (tM Js G W (RlA G) (argM b (ev c b))) σ H1 fun y H2 => K x y H2 := fun K hK => by
    refine bindO s em p'.exc0 fun x ρ1 em1 e1 F1 fp1 H1 v f af rl => ?_
    refine bindO af.sto e1 (p'.exc af) fun y ρ2 em2 e2 F2 fp2 H2 u f2 af2 rl2 => ?_
    cases hd : argsD ρ2 [x, y] with
    | none => rw [hd] at e2; cases e2
    | some l =>
      rw [hd] at e2
      obtain ⟨d1, d2, h1, h2, rfl⟩ := argsD2 hd
      simp only [M.lift] at e2
      cases hp : prim c .ix [d1, d2] with
      | none => rw [hp] at e2; cases e2
      | some r0 =>
        rw [hp] at e2
        simp only [Option.some.injEq] at e2
        subst e2
        have a2 := af.trans af2
        exact hK F2 H2 d1 d2 v u r0 a2.sto.fr hp (RlA.rep1 (ρ1 := ρ2) a2.sto (rl.step af.sto af2.st af.tmp) h1) (RlA.rep1 a2.sto rl2 h2) (p'.pp a2) x ρ1 y ρ2 em1 em2 hd
  by_cases hdic : ∃ x1 ρ1 y1 ρ2 kvs d2, argM a (ev c a) ρ = some (.ok x1, ρ1) ∧ argM b (ev c b) ρ1 = some (.ok y1, ρ2) ∧ argsD ρ2 [x1, y1] = some [.dic kvs, d2]
  · obtain ⟨x1, ρ1, y1, ρ2, kvs, d2, z1, z2, z3⟩ := hdic
    refine .inr (main _ fun F2 H2 d1 d2' v u r0 al hp r1 r2 pp x1' ρ1' y1' ρ2' w1 w2 w3 => ?_)
    rw [z1] at w1; cases w1
    rw [z2] at w2; cases w2
    rw [z3] at w3; cases w3
    simp only [prim, ixD] at hp
    by_cases hk : isKey d2 = true
    · rw [if_pos hk] at hp
      cases hg : dGet d2 kvs with
      | none => rw [hg] at hp; cases hp
      | some x =>
        rw [hg] at hp
        have e := okd_eq hp
        subst e
        obtain ⟨aa, y, rfl, dg, r⟩ := dget_of r1 hk r2 hg
        exact ⟨aa, y, rfl, dg, pp F2 H2 y [] (.refl al) (by simp only [SlR]; exact ⟨trivial, r⟩)⟩
    · rw [if_neg hk] at hp; cases hp
  · refine .inl (main _ fun F2 H2 d1 d2 v u r0 al hp r1 r2 pp x1 ρ1 y1 ρ2 w1 w2 w3 => ?_)
    have nd : ∀ kvs, d1 ≠ .dic kvs := fun kvs e => hdic ⟨x1, ρ1, y1, ρ2, kvs, d2, w1, w2, by rw [← e]; exact w3⟩
    simp only [prim] at hp
    unfold ixD at hp
    split at hp
    · rename_i ds k
      obtain ⟨a, vs, rfl, q, rs⟩ := rep1_tup hG r1
      cases e : (ixNat ds.length k).bind (ds[·]?) with
      | none => rw [e] at hp; cases hp
      | some d =>
        rw [e] at hp
        have e1 := okd_eq hp
        subst e1
        obtain ⟨y, h1, r⟩ := atI_of rs e
        exact .inr (.inl ⟨a, vs, k, y, rfl, rep1_int r2, q, h1, pp F2 H2 y [] (.refl al) (by simp only [SlR]; exact ⟨trivial, r⟩)⟩)
    · rename_i ds k
      obtain ⟨a, vs, rfl, q, rs⟩ := rep1_lst hG r1
      cases e : (ixNat ds.length k).bind (ds[·]?) with
      | none => rw [e] at hp; cases hp
      | some d =>
        rw [e] at hp
        have e1 := okd_eq hp
        subst e1
        obtain ⟨y, h1, r⟩ := atI_of rs e
        exact .inl ⟨a, vs, k, y, rfl, rep1_int r2, q, h1, pp F2 H2 y [] (.refl al) (by simp only [SlR]; exact ⟨trivial, r⟩)⟩
    · rename_i s k
      cases e : (ixNat s.length k).bind (s[·]?) with
      | none => rw [e] at hp; cases hp
      | some d =>
        rw [e] at hp
        obtain ⟨g, hp⟩ := guardR_eq hp
        have e1 := okd_eq hp
        subst e1
        refine .inr (.inr ⟨toS s, k, d, rep1_str r1, rep1_int r2, by rw [toS_len]; exact Nat.le_trans (of_decide_eq_true g) sizeMax_le, ?_, pp.str al⟩)
        rw [ixNat_eq] at e
        show (ixN s.toArray.toList.length k).bind (fun j => s.toArray.toList[j]?) = some d
        simpa using e
    · exact absurd rfl (nd _)
    · cases hp
end
end Mini
/-! Mini, part Q: texts. -/
namespace Mini
open PySem L2

section
variable {X : Cx} {Js : SP} {G : Gs} {W : WX} {c : Ctx} {p : Pr} {F F2 : Addr → Prop} {H H2 : Hp} {Q : VK} {σ : L2.St} {A : Adr}
theorem ofString_eq (s : String) : Str.ofString s = ⟨(s.toList.map Char.toNat).toArray⟩ := by
  show Str.mk (cpsOfBytes 0 0 s.toByteArray.data.toList).toArray = _
  rw [cpsOfBytes_string]
theorem toList_nat (n : Nat) : (toString n).toList = Nat.toDigits 10 n := by
  show (Nat.repr n).toList = _
  unfold Nat.repr
  simp
theorem toS_int (i : Int) : Str.ofString (toString i) = toS (intCs i) := by
  rw [ofString_eq]
  unfold toS intCs natCs
  cases i with
  | ofNat n =>
    have e : (toString (Int.ofNat n)) = toString n := rfl
    rw [e, toList_nat, if_neg (by simp)]
    rfl
  | negSucc n =>
    have e : (toString (Int.negSucc n)) = "-" ++ toString (n + 1) := rfl
    rw [e, String.toList_append, toList_nat, if_pos (by exact Int.negSucc_lt_zero n)]
    rfl
/-- a def that was given data alone only makes objects -/
theorem Grow.of_aft {ρ : Env} {fp2 : Nat → List Addr} {g : List Addr} (a : Aft Js G F (fun _ => []) H ρ σ F2 fp2 H2 g) : Grow F H F2 H2 g where
  sub := a.st.sub
  keep := fun b o h => a.st.keep b o h fun _ z => by simp at z
  new := fun b h => (a.st.new b h).elim .inl fun z => z.elim (fun ⟨i, z⟩ => by simp at z) .inr
  fresh := fun b h => ⟨(a.src b h).elim (fun ⟨i, z⟩ => by simp at z) id, a.tmp.out b h⟩
  nd := a.tmp.nd
  al := a.sto.fr
theorem sto_one {d : D} {v : V} (al : ∀ b, F b → H b ≠ none) (r : Rep G F H d v) : Sto JT G F ([R.d d].map some) ([v].map some) H (fun _ => []) := by
  refine ⟨rfl, fun i q h => ?_, fun _ => .nil, fun i j b h => by simp at h, fun i b h => by simp at h, al, trivial⟩
  cases i with
  | zero =>
    simp [getI] at h
    subst h
    exact ⟨v, rfl, by simp only [SlR]; exact ⟨trivial, r⟩⟩
  | succ i => simp [getI] at h

/-! ### str -/
/-- what is known of the str of own objects -/
def StrF (X : Cx) (G : Gs) (c : Ctx) (n : Nat) : Prop := ∀ k, (∀ rs, c.call1 (k ++ ".__str__") rs = none) ∨ ∃ f fd ps, FnOk X.prog X.w X.K X.mg X.base (L2.CX X.prog X.w) n f fd ps (spN G (c.call1 (k ++ ".__str__")) 1) ∧
  PySem.W.findIn X.K (.ref (G.ca k)) "__str__" = some (some (.ref f)) ∧ PySem.W.isFn X.K (.ref f) = true ∧ Binds X.K fd ps []
def rStrO (G : Gs) (c : Ctx) : List V → Hp → VK → Prop := fun vs H Q => ∃ F k fs v s, vs = [v] ∧ (∀ b, F b → H b ≠ none) ∧ ask1 c (k ++ ".__str__") [.obj k fs] = some (.ok (.str s)) ∧ Rep G F H (.obj k fs) v ∧ ∀ F2 H2, Grow F H F2 H2 [] → Q (.str (toS s)) H2
theorem call_str_obj {n : Nat} (hs : StrF X G c n) (hr : Room (n + 3) X.A) : CallR X (.type "str") (rStrO G c) := by
  intro pins s σ H xs us Q I r h
  obtain ⟨F, k, fs, v, t, rfl, al, ha, rp, q⟩ := h
  obtain ⟨u, rfl, ru⟩ := vals1 r
  rcases hs k with hn | ⟨f, fd, ps, FO, hf1, hf2, hb⟩
  · simp [ask1, hn] at ha
  · have rp0 := rp
    simp only [Rep] at rp0
    obtain ⟨a, dx, ys, rfl, fa, hH, rf⟩ := rp0
    cases (show u = Value.ref a from ru)
    obtain ⟨mA, J, _⟩ := ins_get I.hok hH
    obtain ⟨od, J, _⟩ := J.look
    have hun := (hr.in1.in1).units0
    refine PySem.W.kso_call hun I.kIn J hf1 hf2 ?_
    have hr2 : Room n X.A.in1.in1 := (hr.in1.in1).mono (by omega)
    have hc : ∃ q outs, c.call1 (k ++ ".__str__") [.d (.obj k fs)] = some (.ok q, outs) ∧ q.frz = .str t := by
      simp only [ask1, List.map_cons, List.map_nil] at ha
      cases e : c.call1 (k ++ ".__str__") [.d (.obj k fs)] with
      | none => rw [e] at ha; cases ha
      | some z =>
        obtain ⟨z1, z2⟩ := z
        rw [e] at ha
        cases z1 with
        | ok q => simp only [Option.some.injEq, Rs.ok.injEq] at ha; exact ⟨q, z2, rfl, ha⟩
        | ex x => cases ha
    obtain ⟨q0, outs, hc, hfz⟩ := hc
    have hsp : spN G (c.call1 (k ++ ".__str__")) 1 [.ref a] H (fun v H' => ∃ s0, v = .str s0 ∧ Q v H') (fun _ _ _ => False) := by
      refine ⟨F, [.d (.obj k fs)], fun _ => [], _, sto_one al rp, rfl, hc, ?_⟩
      intro F2 fp2 H2 v g af sl
      have rep := af.frzRep sl
      rw [hfz] at rep
      have ev := rep1_str rep.rep1
      subst ev
      exact ⟨_, rfl, q _ H2 (Grow.of_aft af.frz)⟩
    have e0 : Env0 X.prog X.w X.K X.mg X.base X.A.in1.in1 X.stack s H := I.env0.in1.in1
    have hl := FO.len _ _ _ _ hsp
    have r2 : Vals [V.ref a] [Value.ref a] := .cons rfl .nil
    refine wpAny_call (codeAny_mono (FO.run X.A.in1.in1 X.stack s H ⟨[.ref a], []⟩ [.ref a] [.ref a] _ _ hr2 e0 (by
      have := hb s [.ref a] I.kIn (by simpa using hl)
      simpa using this) r2 hsp) fun r s' hq => ?_)
    cases r with
    | error e =>
      obtain ⟨_, _, _, _, _, _, _, _, _, _, _, _, z⟩ := hq
      exact z.elim
    | ok fl =>
      cases fl with
      | ret w =>
        obtain ⟨z, H', I', rz, s0, ez, qq⟩ := I.after hq
        subst ez
        obtain ⟨tk, rfl⟩ := rz
        exact ⟨.str s0, H', I', ⟨tk, rfl⟩, qq⟩
      | next => exact False.elim hq
      | brk => exact False.elim hq
      | cont => exact False.elim hq
theorem strD_int {i : Int} {r : Rs D} (h : strD c (.int i) = some r) : i.natAbs.log2 < 1920 ∧ r = .ok (.str (intCs i)) := by
  simp only [strD] at h
  by_cases z : i.natAbs.log2 < 1920
  · simp only [z, decide_true, if_true, Option.some.injEq] at h
    exact ⟨z, h.symm⟩
  · simp [z] at h
theorem strD_str {s : Cs} {r : Rs D} (h : strD c (.str s) = some r) : s.length ≤ sizeMax ∧ r = .ok (.str s) := by
  simp only [strD] at h
  by_cases z : s.length ≤ sizeMax
  · rw [if_pos z] at h
    exact ⟨z, (Option.some.inj h).symm⟩
  · rw [if_neg z] at h; cases h
theorem okS_eq {o : Option (Rs D)} {res : Rs R} (h : okS o = some res) : (∃ d, o = some (.ok d) ∧ res = .ok (.d d)) ∨ ∃ x, o = some (.ex x) ∧ res = .ex x := by
  cases o with
  | none => cases h
  | some r => cases r with
    | ok d => exact .inl ⟨d, rfl, okd_eq h⟩
    | ex x => exact .inr ⟨x, rfl, (Option.some.inj h).symm⟩
theorem call_str_ok {n : Nat} (hs : StrF X G c n) (hr : Room (n + 3) X.A) : CallR X (.type "str") (lP G W c .str) :=
  CallR.weak (CallR.or call_str_int (CallR.or SkE.call_str_str (call_str_obj hs hr))) fun vs H Q h => by
    obtain ⟨σ, F, d, v, res, rfl, al, hp, r, pp⟩ := lP_one h fun _ _ => prim_one (by simp)
    simp only [prim] at hp
    cases d with
    | int i =>
      rcases okS_eq hp with ⟨d, e, rfl⟩ | ⟨x, e, rfl⟩
      · obtain ⟨z, e⟩ := strD_int e
        cases e
        refine .inl ⟨i, by rw [rep1_int r], z, ?_⟩
        rw [toS_int]
        exact pp.str al
      · have := (strD_int e).2; cases this
    | str s =>
      rcases okS_eq hp with ⟨d, e, rfl⟩ | ⟨x, e, rfl⟩
      · obtain ⟨z, e⟩ := strD_str e
        cases e
        exact .inr (.inl ⟨toS s, by rw [rep1_str r], pp.str al⟩)
      · have := (strD_str e).2; cases this
    | obj k fs =>
      simp only [strD] at hp
      cases ha : ask1 c (k ++ ".__str__") [.obj k fs] with
      | none => rw [ha] at hp; cases hp
      | some z =>
        rw [ha] at hp
        cases z with
        | ex x => cases hp
        | ok d =>
          cases d with
          | str s =>
            have e : res = .ok (.d (.str s)) := okd_eq hp
            subst e
            exact .inr (.inr ⟨F, k, fs, v, s, rfl, al, ha, by simpa [Rep1] using r, fun F2 H2 g => pp F2 H2 _ [] g (by simp only [SlR, Rep]; exact ⟨trivial, trivial⟩)⟩)
          | _ => cases hp
    | _ => simp [strD, okS] at hp
theorem bw_fmt {pe : Expr} {pos : Pos} {e : E} (he : PE X pe (tM Js G W (RlA G) (argM e (ev c e)))) : PE X (.FormattedValue pe (-1) none pos) (tE Js G W (ev c (.prim .fmt [e]))) :=
  bw_prim1 rfl (pe_fmt he) fun σ F H d v res Q al hp r pp => by
    cases d <;> simp only [prim] at hp <;> first | (cases hp; done) | skip
    · rename_i i
      rcases okS_eq hp with ⟨d, e, rfl⟩ | ⟨x, e, rfl⟩
      · obtain ⟨z, e⟩ := strD_int e
        cases e
        refine .inr ⟨i, rep1_int r, z, ?_⟩
        rw [toS_int]
        exact pp.str al
      · have := (strD_int e).2; cases this
    · rename_i s
      rcases okS_eq hp with ⟨d, e, rfl⟩ | ⟨x, e, rfl⟩
      · obtain ⟨z, e⟩ := strD_str e
        cases e
        exact .inl ⟨toS s, rep1_str r, by rw [toS_len]; exact Nat.le_trans z sizeMax_le, pp.str al⟩
      · have := (strD_str e).2; cases this

/-! ### sorted -/
theorem sortedSpair : ∀ {l : List Str}, PyProof.Rows.sortedS l = true → l.Pairwise (fun a b => ¬ b.cps.toList < a.cps.toList)
  | [], _ => .nil
  | [x], _ => by simp
  | x :: y :: r, h => by
    have go : ∀ (x : Str) (l : List Str), PyProof.Rows.risingS x l = true → (x :: l).Pairwise (fun a b => ¬ b.cps.toList < a.cps.toList) := by
      intro x l
      induction l generalizing x with
      | nil => intro _; simp
      | cons y r ih =>
        intro h
        simp only [PyProof.Rows.risingS, Bool.and_eq_true, Bool.not_eq_true', PyProof.Rows.ltCps_eq, decide_eq_false_iff_not] at h
        have q := ih y h.2
        refine List.Pairwise.cons (fun z hz => ?_) q
        rcases List.mem_cons.mp hz with rfl | hz
        · exact h.1
        · have h2 := (List.pairwise_cons.mp q).1 z hz
          intro lt
          by_cases e : z.cps.toList < y.cps.toList
          · exact h2 e
          · have le1 : y.cps.toList ≤ z.cps.toList := List.not_lt.mp e
            have le2 : x.cps.toList ≤ y.cps.toList := List.not_lt.mp h.1
            exact absurd lt (List.not_lt.mpr (List.le_trans le2 le1))
    exact go x (y :: r) h
theorem insCs_perm {x : Cs} : ∀ {l : List Cs}, (insCs x l).Perm (x :: l)
  | [] => .refl _
  | y :: r => by
    unfold insCs
    split
    · exact .refl _
    · exact ((insCs_perm (l := r)).cons y).trans (.swap x y r)
theorem sortCs_perm : ∀ {l : List Cs}, (sortCs l).Perm l
  | [] => .refl _
  | x :: r => (insCs_perm (l := sortCs r)).trans ((sortCs_perm (l := r)).cons x)
theorem insCs_sorted {x : Cs} : ∀ {l : List Cs}, l.Pairwise (fun a b => ¬ b < a) → (insCs x l).Pairwise (fun a b => ¬ b < a)
  | [], _ => by simp [insCs]
  | y :: r, h => by
    unfold insCs
    rw [ltCs_iff]
    by_cases z : x < y
    · rw [if_pos (by simpa using z)]
      refine .cons (fun w hw => ?_) h
      rcases List.mem_cons.mp hw with rfl | hw
      · exact List.not_lt.mpr (List.le_of_lt z)
      · have h1 := (List.pairwise_cons.mp h).1 w hw
        exact List.not_lt.mpr (List.le_trans (List.le_of_lt z) (List.not_lt.mp h1))
    · rw [if_neg (by simpa using z)]
      obtain ⟨h1, h2⟩ := List.pairwise_cons.mp h
      refine .cons (fun w hw => ?_) (insCs_sorted h2)
      rcases List.mem_cons.mp ((insCs_perm (x := x) (l := r)).mem_iff.mp hw) with rfl | hw
      · exact z
      · exact h1 w hw
theorem sortCs_sorted : ∀ {l : List Cs}, (sortCs l).Pairwise (fun a b => ¬ b < a)
  | [] => .nil
  | x :: r => insCs_sorted (sortCs_sorted (l := r))
theorem sort_uniq {ys : List Str} {x : List Cs} (hp : ys.Perm (x.map toS)) (hs : PyProof.Rows.sortedS ys = true) : ys = (sortCs x).map toS := by
  refine List.Perm.eq_of_pairwise (le := fun a b : Str => ¬ b.cps.toList < a.cps.toList) (fun a b _ _ h1 h2 => ?_) (sortedSpair hs) ?_ (hp.trans ((sortCs_perm (l := x)).map toS).symm)
  · have e : a.cps.toList = b.cps.toList := List.le_antisymm (List.not_lt.mp h1) (List.not_lt.mp h2)
    cases a
    cases b
    simpa using e
  · rw [List.pairwise_map]
    exact (sortCs_sorted (l := x)).imp fun h => by simpa [toS] using h
theorem call_sorted_ok (hG : G = ⟨X.K, A.ca, A.fa⟩) : CallR X (.builtin "sorted") (lP G W c .sorted) := CallR.weak cr_sortedS fun vs H Q h => by
  obtain ⟨σ, F, d, v, res, rfl, al, hp, r, pp⟩ := lP_one h fun _ _ => prim_one (by simp)
  cases d <;> simp only [prim] at hp <;> first | (cases hp; done) | skip
  rename_i ds
  obtain ⟨a, ws, rfl, q, rs⟩ := rep1_lst hG r
  cases e : strsOf ds with
  | none => rw [e] at hp; cases hp
  | some x =>
    rw [e] at hp
    obtain ⟨g, hp⟩ := guardR_eq hp
    have e1 : res = .ok (.own (.lst ((sortCs x).map .str))) := (Option.some.inj hp).symm
    subst e1
    refine ⟨a, x.map toS, rfl, by rw [← strs_of rs e]; exact q, by simpa using g, fun ys q' hpm hst hq => ?_⟩
    rw [sort_uniq hpm hst]
    have rr : ∀ l : List Cs, Reps G F H (l.map D.str) ((l.map toS).map V.str) := fun l => by
      induction l with
      | nil => exact .nil
      | cons a l ih => exact .cons (by simp only [Rep]) ih
    exact pp.lst al (rr (sortCs x)) q' hq
end
end Mini
/-! Mini, part R: more expressions. -/
namespace Mini
open PySem L2

section
variable {X : Cx} {Js : SP} {G : Gs} {W : WX} {c : Ctx} {p q : Pr} {F : Addr → Prop} {H : Hp} {σ : L2.St} {A : Adr}
/-! ### constants of the module -/
theorem bw_glb {x : Str} {nm : String} {d : D} {v : V} {u : Value} {pos : Pos} (hc : c.const nm = some d) (hd : ∀ F H, Rep G F H d v) (hg : Gl X x) (hm : X.mg x = some u) (r : RelV v u) (hdb : (x == ("__debug__" : Str)) = false) : PE X (.Name x pos) (tE Js G W (ev c (.glb nm))) := by
  refine PE.weak (pe_glob hg hm r hdb) fun σ H Q ⟨F, ρ, fp, res, s, e, p⟩ => ?_
  show Q v H
  simp only [ev, M.opt, hc, Option.bind_some] at e
  have : res = (.ok (.d d), ρ) := by
    cases d <;> simp only [Option.some.injEq] at e <;> first | exact e.symm | cases e
  subst this
  exact p F fp H v [] (.refl s) (by simp only [RlV, SlR]; exact ⟨trivial, hd F H⟩)

/-! ### and, or -/
theorem trz_of {r : R} {v : V} {b : Bool} {f : List Addr} (hG : G = ⟨X.K, A.ca, A.fa⟩) (h : SlR G F H r v f) (e : truthD c r.frz = some b) : TruV X.K v H b := by
  cases r with
  | d x => exact tru_of hG (SlR.rep1 h rfl) e
  | own x => exact tru_of hG (SlR.rep1 h rfl) e
  | obj k fs => simp [R.frz, truthD] at e
theorem bw_and {pa pb : Expr} {rest : List Expr} {pos : Pos} {a b : E} (hG : G = ⟨X.K, A.ca, A.fa⟩) (ha : PE X pa (tE Js G W (ev c a))) (hb : PE X (.BoolOp .And (pb :: rest) pos) (tE Js G W (ev c b))) : PE X (.BoolOp .And (pa :: pb :: rest) pos) (tE Js G W (ev c (.and_ a b))) := by
  refine PE.weak (pe_andT ha hb) fun σ H Q ⟨F, ρ, fp, res, s, e, p⟩ => ?_
  simp only [ev] at e
  refine bindO s e p.exc0 fun x ρ1 em e1 F1 fp1 H1 v f af rl => ?_
  simp only [M.bind, M.opt] at e1
  cases ht : truthD c x.frz with
  | none => rw [ht] at e1; cases e1
  | some t =>
    rw [ht] at e1
    refine ⟨t, trz_of hG rl ht, ?_⟩
    cases t with
    | true =>
      rw [if_pos rfl]
      simp only [if_true] at e1
      exact tM.of af.drop.sto e1 (p.rest af.drop)
    | false =>
      rw [if_neg Bool.false_ne_true]
      simp only [Bool.false_eq_true, if_false, M.pure, Option.some.injEq] at e1
      subst e1
      exact p _ fp1 H1 v [] af.frz (by simp only [RlV, SlR]; exact ⟨trivial, af.frzRep rl⟩)
theorem bw_or {pa pb : Expr} {rest : List Expr} {pos : Pos} {a b : E} (hG : G = ⟨X.K, A.ca, A.fa⟩) (ha : PE X pa (tE Js G W (ev c a))) (hb : PE X (.BoolOp .Or (pb :: rest) pos) (tE Js G W (ev c b))) : PE X (.BoolOp .Or (pa :: pb :: rest) pos) (tE Js G W (ev c (.or_ a b))) := by
  refine PE.weak (pe_orT ha hb) fun σ H Q ⟨F, ρ, fp, res, s, e, p⟩ => ?_
  simp only [ev] at e
  refine bindO s e p.exc0 fun x ρ1 em e1 F1 fp1 H1 v f af rl => ?_
  simp only [M.bind, M.opt] at e1
  cases ht : truthD c x.frz with
  | none => rw [ht] at e1; cases e1
  | some t =>
    rw [ht] at e1
    refine ⟨t, trz_of hG rl ht, ?_⟩
    cases t with
    | false =>
      rw [if_neg Bool.false_ne_true]
      simp only [Bool.false_eq_true, if_false] at e1
      exact tM.of af.drop.sto e1 (p.rest af.drop)
    | true =>
      rw [if_pos rfl]
      simp only [if_true, M.pure, Option.some.injEq] at e1
      subst e1
      exact p _ fp1 H1 v [] af.frz (by simp only [RlV, SlR]; exact ⟨trivial, af.frzRep rl⟩)
theorem bw_bool1 {op : BoolOp} {pa : Expr} {pos : Pos} {a : E} (ha : PE X pa (tE Js G W (ev c a))) : PE X (.BoolOp op [pa] pos) (tE Js G W (ev c a)) := pe_one ha
theorem bw_not {pa : Expr} {pos : Pos} {a : E} (hG : G = ⟨X.K, A.ca, A.fa⟩) (ha : PE X pa (tM Js G W (RlA G) (argM a (ev c a)))) : PE X (.UnaryOp .Not pa pos) (tE Js G W (ev c (.prim .not_ [a]))) :=
  bw_prim1 (r := fun x H Q => ∃ k, TruV X.K x H k ∧ Q (.bl (!k)) H) rfl (pe_notT ha) fun σ F H d v res Q al hp r pp => by
    simp only [prim] at hp
    obtain ⟨b', hb', rfl⟩ := okB_eq hp
    cases hb : truthD c d with
    | none => rw [hb] at hb'; cases hb'
    | some b =>
      rw [hb] at hb'
      simp only [Option.map_some, Option.some.injEq] at hb'
      subst hb'
      exact ⟨b, tru_of hG r hb, pp.bl al⟩

/-! ### a < b < c -/
theorem chain_imp {op op' : CmpOp} {a b d : E} {σ : L2.St} {H : Hp} {Q : VK} (h : tE Js G W (ev c (.chain p q a b d)) σ H Q) : tChain (rP G W c p) (rP G W c q) (tE Js G W (ev c a)) (tE Js G W (ev c b)) (tE Js G W (ev c d)) σ H Q := by
  obtain ⟨F, ρ, fp, res, s, e, p'⟩ := h
  simp only [ev] at e
  refine bindO s e p'.exc0 fun u ρ1 em e1 F1 fp1 H1 x f af rl => ?_
  have af' := af.frz
  have rep := af.frzRep rl
  refine bindO af'.sto e1 (p'.exc af') fun v ρ2 em2 e2 F2 fp2 H2 y f2 af2 rl2 => ?_
  have af2' := af2.frz
  have rep2 := af2.frzRep rl2
  have a2 := af'.trans af2'
  have repu := af2'.st.rep af'.sto rep
  simp only [M.bind, M.lift] at e2
  cases hp : prim c p [u.frz, v.frz] with
  | none => rw [hp] at e2; cases e2
  | some r0 =>
    rw [hp] at e2
    refine ⟨σ, _, u.frz, v.frz, r0, a2.sto.fr, hp, repu.rep1, rep2.rep1, ?_⟩
    cases r0 with
    | ex x =>
      simp only [Option.some.injEq] at e2
      subst e2
      intro F' H' cls dd g xr
      exact p' F' _ H' cls dd (a2.grow g) xr
    | ok r0 =>
      simp only at e2
      intro F3 H3 z f3 g3 sl
      have a3 := (a2.grow g3)
      split at e2
      · simp only [SlR, Rep] at sl
        obtain ⟨_, rfl⟩ := sl
        refine ⟨true, rfl, ?_⟩
        rw [if_pos rfl]
        have e3 : M.bind (ev c d) (fun w => M.lift (prim c q [v.frz, w.frz])) ρ2 = some res := e2
        refine bindO a3.drop.sto e3 (p'.exc a3.drop) fun w ρ3 em3 e4 F4 fp4 H4 w' f4 af4 rl4 => ?_
        have af4' := af4.frz
        have rep4 := af4.frzRep rl4
        have repv : Rep G _ H4 v.frz y := af4'.st.rep a3.drop.sto (rep2.mono g3.sub (g3.ne a2.sto.fr))
        simp only [M.lift] at e4
        cases hq : prim c q [v.frz, w.frz] with
        | none => rw [hq] at e4; cases e4
        | some r1 =>
          rw [hq] at e4
          simp only [Option.some.injEq] at e4
          subst e4
          exact ⟨σ, _, v.frz, w.frz, r1, af4'.sto.fr, hq, repv.rep1, rep4.rep1, p'.pp (a3.drop.trans af4')⟩
      · simp only [SlR, Rep] at sl
        obtain ⟨_, rfl⟩ := sl
        refine ⟨false, rfl, ?_⟩
        rw [if_neg Bool.false_ne_true]
        simp only [M.pure, Option.some.injEq] at e2
        subst e2
        exact p' F3 _ H3 (.bl false) [] a3.drop (by simp only [RlV, SlR, Rep]; exact ⟨trivial, trivial⟩)
      · cases e2
theorem bw_chain {op op' : CmpOp} {pa pb pc : Expr} {pos : Pos} {a b d : E} (ho : OpR X (compareOp op) (rP G W c p)) (ho' : OpR X (compareOp op') (rP G W c q)) (ha : PE X pa (tE Js G W (ev c a))) (hb : PE X pb (tE Js G W (ev c b))) (hd : PE X pc (tE Js G W (ev c d)))
    (hm : lastMarks [op, op'] [pb, pc] = false) : PE X (.Compare pa [op, op'] [pb, pc] pos) (tE Js G W (ev c (.chain p q a b d))) := PE.weak (pe_chain ho ho' ha hb hd hm) fun σ H Q h => chain_imp (op := op) (op' := op') h

/-! ### [.., *e, ..] -/
theorem items_of {d : D} {l : List D} {v : V} (hG : G = ⟨X.K, A.ca, A.fa⟩) (r : Rep1 G F H d v) (e : itemsT d = some l) : ∃ a vs, v = .ref a ∧ (SqT X.K H a vs ∨ SqL X.K H a vs) ∧ Reps G F H l vs := by
  cases d <;> simp only [itemsT, Option.some.injEq] at e <;> first | (cases e; done) | skip
  · subst e
    obtain ⟨a, vs, rfl, q, rs⟩ := rep1_tup hG r
    exact ⟨a, vs, rfl, .inl q, rs⟩
  · subst e
    obtain ⟨a, vs, rfl, q, rs⟩ := rep1_lst hG r
    exact ⟨a, vs, rfl, .inr q, rs⟩
theorem bw_is_star {pe : Expr} {pes : List Expr} {e : E} {es : List E} {sp : Pos} (hG : G = ⟨X.K, A.ca, A.fa⟩) (h : PE X pe (tM Js G W (RlA G) (argM e (ev c e)))) (hr : PA X pes (tM Js G W (RlI G) (evi c es)))
    (hs : starEach (.Starred pe sp :: pes) X.env = (true, eval pe X.env) :: starEach pes X.env) : PA X (.Starred pe sp :: pes) (tM Js G W (RlI G) (evi c (.star e :: es))) := by
  refine PA.weak (StX.pa_star h hr hs) fun σ H Q ⟨F, ρ, fp, res, s, em, p⟩ => ?_
  simp only [evi, itemM, ev, M.bind_assoc] at em
  refine bindO s em p.exc0 fun a ρ1 e0 e1 F1 fp1 H1 v f af rl => ?_
  simp only [M.bind, shareA] at e1
  cases hd : argD ρ1 a with
  | none => rw [hd] at e1; cases e1
  | some d =>
    rw [hd] at e1
    simp only [M.opt, R.frz] at e1
    have r1 := RlA.rep1 af.sto rl hd
    cases hi : itemsT d with
    | none => rw [hi] at e1; cases e1
    | some l =>
      rw [hi] at e1
      obtain ⟨b, vs, rfl, q, rs⟩ := items_of hG r1 hi
      refine ⟨b, vs, rfl, q, ?_⟩
      have e2 : M.bind (evi c es) (fun ds => M.pure (l ++ ds)) ρ1 = some res := e1
      refine bindO af.drop.sto e2 (p.exc af.drop) fun ds ρ2 em2 e3 F2 fp2 H2 ws f2 af2 rls => ?_
      obtain ⟨rfl, rps⟩ := rls
      simp only [M.pure, Option.some.injEq] at e3
      subst e3
      exact p F2 fp2 H2 (vs ++ ws) [] (af.drop.trans af2) ⟨rfl, (af2.st.reps af.drop.sto rs).app rps⟩
end
end Mini
/-! Mini, part S: join, texts with fields, isinstance. -/
namespace Mini
open PySem L2

section
variable {X : Cx} {Js : SP} {G : Gs} {W : WX} {c : Ctx} {p q : Pr} {F : Addr → Prop} {H : Hp} {σ : L2.St} {A : Adr}
/-! ### 's'.join(e) -/
theorem join_str (s : Cs) : ∀ (x : List Cs), Str.join (toS s) (x.map toS) = toS (joinCs s x)
  | [] => rfl
  | [x] => rfl
  | x :: y :: r => by
    have h := join_str s (y :: r)
    simp only [List.map_cons] at h ⊢
    show toS x ++ toS s ++ Str.join (toS s) (toS y :: r.map toS) = _
    rw [h, toS_app, toS_app]
    rfl
theorem join_of (s : Cs) (x : List Cs) : Txt.join (toS s) (x.map toS) = toS (joinCs s x) := by
  show Builtin.Str.glued (toS s) (x.map toS) = _
  rw [StrLaws.glued_eq_join, join_str]
theorem sum_of : ∀ (x : List Cs), ((x.map toS).map (·.length)).sum = (x.map (·.length)).sum
  | [] => rfl
  | x :: r => by
    have := sum_of r
    simp only [List.map_cons, List.sum_cons, this, toS_len]
theorem bw_join {po pe : Expr} {apos pos : Pos} {s : Cs} {e : E} (hG : G = ⟨X.K, A.ca, A.fa⟩) (ho : PE X po (tE Js G W (ev c (.con (.str s))))) (he : PE X pe (tM Js G W (RlA G) (argM e (ev c e)))) (hs : starEach [pe] X.env = [(false, eval pe X.env)])
    (hbase : attributeBase po "join" X.env (eval po X.env) = eval po X.env) (hline : (apos.endLine == pos.line) = true) : PE X (.Call (.Attribute po "join" apos) [pe] [] pos) (tE Js G W (ev c (.prim .join [.con (.str s), e]))) := by
  refine PE.weak (pe_join ho he hs hbase hline) fun σ H Q ⟨F, ρ, fp, res, st, em, p'⟩ => ?_
  rw [ev_prim2] at em
  have e0 : argM (.con (.str s)) (ev c (.con (.str s))) = M.bind (ev c (.con (.str s))) fun x => M.pure (.r x) := rfl
  rw [e0, M.bind_assoc] at em
  refine bindO (Rl := RlV G) st em p'.exc0 fun x ρ1 em1 e1 F1 fp1 H1 v f af rl => ?_
  simp only [ev, M.pure, Option.some.injEq, Prod.mk.injEq, Rs.ok.injEq] at em1
  obtain ⟨rfl, rfl⟩ := em1
  simp only [RlV, SlR, Rep] at rl
  obtain ⟨rfl, rfl⟩ := rl
  refine ⟨⟨_, rfl⟩, ?_⟩
  rw [M.pure_bind] at e1
  refine bindO af.sto e1 (p'.exc af) fun y ρ2 em2 e2 F2 fp2 H2 u f2 af2 rl2 => ?_
  cases hd : argsD ρ2 [.r (.d (.str s)), y] with
  | none => rw [hd] at e2; cases e2
  | some l =>
    rw [hd] at e2
    obtain ⟨d1, d2, h1, h2, rfl⟩ := argsD2 hd
    simp only [argD, R.val, Option.some.injEq] at h1
    subst h1
    simp only [M.lift] at e2
    cases hp : prim c .join [.str s, d2] with
    | none => rw [hp] at e2; cases e2
    | some r0 =>
      rw [hp] at e2
      simp only [Option.some.injEq] at e2
      subst e2
      have a2 := af.trans af2
      have r2 := RlA.rep1 a2.sto rl2 h2
      have hh : ∃ l x, itemsT d2 = some l ∧ strsOf l = some x ∧ (x.map (·.length)).sum + x.length * s.length ≤ sizeMax ∧ r0 = .ok (.d (.str (joinCs s x))) := by
        simp only [prim] at hp
        cases d2 <;> simp only at hp <;> first | (cases hp; done) | skip
        all_goals
          rename_i l
          cases e : strsOf l with
          | none => rw [e] at hp; cases hp
          | some x =>
            rw [e] at hp
            obtain ⟨g, hp⟩ := guardR_eq hp
            exact ⟨l, x, rfl, e, of_decide_eq_true g, okd_eq hp⟩
      obtain ⟨l, x, hi, hx, hz, rfl⟩ := hh
      obtain ⟨b, vs, rfl, sq, rs⟩ := items_of hG r2 hi
      have pp := p'.pp a2
      refine ⟨toS s, b, x.map toS, rfl, rfl, ?_, ?_, ?_⟩
      · rw [← strs_of rs hx]
        exact sq.elim .inr .inl
      · rw [sum_of, List.length_map, toS_len]
        have : sizeMax ≤ 16777216 := by decide
        omega
      · rw [join_of]
        exact pp.str a2.sto.fr

/-! ### f'..' -/
theorem bj_nil : PJ X [] (([] : List E).map fun e => tE Js G W (ev c e)) := .nil
theorem bj_cons {pe : Expr} {pes : List Expr} {e : E} {es : List E} (h : PE X pe (tE Js G W (ev c e))) (r : PJ X pes (es.map fun e => tE Js G W (ev c e))) : PJ X (pe :: pes) ((e :: es).map fun e => tE Js G W (ev c e)) := .cons h r
theorem strsOf_app : ∀ {a b : List D} {l m : List Cs}, strsOf a = some l → strsOf (a ++ b) = some m → ∃ r, strsOf b = some r ∧ m = l ++ r
  | [], b, l, m, h, q => by
    simp only [strsOf, Option.some.injEq] at h
    subst h
    exact ⟨m, q, rfl⟩
  | d :: a, b, l, m, h, q => by
    cases d <;> simp only [strsOf, List.cons_append] at h q <;> first | (cases h; done) | skip
    cases e1 : strsOf a with
    | none => rw [e1] at h; cases h
    | some l1 =>
      rw [e1] at h
      cases e2 : strsOf (a ++ b) with
      | none => rw [e2] at q; cases q
      | some m1 =>
        rw [e2] at q
        simp only [Option.some.injEq] at h q
        obtain ⟨r, e3, e4⟩ := strsOf_app e1 e2
        subst h; subst q
        exact ⟨r, e3, by rw [e4]; rfl⟩
theorem js_of : ∀ {es : List E} {acc : Cs} {H : Hp} {Q : Str → Hp → Prop}, (∀ e ∈ es, isStar e = false) →
    (∃ F ρ fp ds ρ' l, Sto Js G F ρ σ H fp ∧ evi c es ρ = some (.ok ds, ρ') ∧ strsOf ds = some l ∧ acc.length + (l.map (·.length)).sum ≤ sizeMax ∧ ∀ F' fp' H', Aft Js G F fp H ρ' σ F' fp' H' [] → Q (toS (acc ++ l.flatten)) H') →
    tJs (es.map fun e => tE Js G W (ev c e)) (toS acc) σ H Q
  | [], acc, H, Q, _, ⟨F, ρ, fp, ds, ρ', l, s, e, hl, _, q⟩ => by
    simp only [evi, M.pure, Option.some.injEq, Prod.mk.injEq, Rs.ok.injEq] at e
    obtain ⟨rfl, rfl⟩ := e
    simp only [strsOf, Option.some.injEq] at hl
    subst hl
    have := q F fp H (.refl s)
    simpa [tJs] using this
  | e :: es, acc, H, Q, hn, ⟨F, ρ, fp, ds0, ρ', l, s, em, hl, hz, q⟩ => by
    simp only [List.map_cons, tJs]
    simp only [evi] at em
    rw [itemM_val (hn e (by simp)), M.bind_assoc] at em
    refine bindO (α' := List D) (res := (.ok ds0, ρ')) s em (fun x ρ2 e2 => by cases e2) fun r ρ1 em1 e1 F1 fp1 H1 v f af rl => ?_
    rw [M.pure_bind] at e1
    have rep := af.frzRep rl
    simp only [M.bind] at e1
    cases e3 : evi c es ρ1 with
    | none => rw [e3] at e1; cases e1
    | some z =>
      obtain ⟨fin2, ρ2⟩ := z
      rw [e3] at e1
      cases fin2 with
      | ex x => cases e1
      | ok ds =>
        simp only [M.pure, Option.some.injEq, Prod.mk.injEq, Rs.ok.injEq] at e1
        obtain ⟨rfl, rfl⟩ := e1
        have : ∃ t, r.frz = .str t := by
          cases e4 : r.frz <;> rw [e4] at hl <;> simp [strsOf] at hl
          exact ⟨_, rfl⟩
        obtain ⟨t, ht⟩ := this
        rw [ht] at hl rep
        obtain ⟨l2, h2, rfl⟩ := strsOf_app (a := [.str t]) (l := [t]) rfl hl
        have ev := rep1_str rep.rep1
        subst ev
        simp only [List.map_append, List.sum_append, List.map_cons, List.map_nil, List.sum_cons, List.sum_nil] at hz
        refine ⟨toS t, rfl, ?_, ?_⟩
        · rw [toS_app, toS_len, List.length_append]
          have := sizeMax_le
          omega
        · rw [toS_app]
          refine js_of (fun e he => hn e (by simp [he])) ⟨_, ρ1, _, ds, ρ2, l2, af.frz.sto, e3, h2, by rw [List.length_append]; omega, fun F' fp' H' a2 => ?_⟩
          have := q F' fp' H' (af.frz.trans a2)
          simpa using this
theorem bw_fstr {v1 v2 : Expr} {rest : List Expr} {es : List E} {pos : Pos} (hn : ∀ e ∈ es, isStar e = false) (h : PJ X (v1 :: v2 :: rest) (es.map fun e => tE Js G W (ev c e))) : PE X (.JoinedStr (v1 :: v2 :: rest) pos) (tE Js G W (ev c (.fstr es))) := by
  refine PE.weak (pe_joined h) fun σ H Q ⟨F, ρ, fp, res, s, em, p⟩ => ?_
  simp only [ev, M.bind, M.quiet] at em
  cases e1 : evi c es ρ with
  | none => rw [e1] at em; cases em
  | some z =>
    obtain ⟨fin, ρ'⟩ := z
    rw [e1] at em
    cases fin with
    | ex x => cases em
    | ok ds =>
      simp only [M.opt] at em
      cases hl : strsOf ds with
      | none => rw [hl] at em; cases em
      | some l =>
        rw [hl] at em
        simp only [Option.bind_some] at em
        by_cases hz : (l.map (·.length)).sum ≤ sizeMax
        · simp only [hz, decide_true, if_true, Option.some.injEq] at em
          subst em
          have e0 : Str.empty = toS [] := rfl
          rw [e0]
          exact js_of hn ⟨F, ρ, fp, ds, ρ', l, s, e1, hl, by simpa using hz, fun F' fp' H' a => by
            have := p F' fp' H' (.str (toS l.flatten)) [] a (by simp only [RlV, SlR, Rep]; exact ⟨trivial, trivial⟩)
            simpa using this⟩
        · simp [hz] at em
end
end Mini
/-! Mini, part T: isinstance. -/
namespace Mini
open PySem L2

/-- what isinstance(.., u) answers, u the class k -/
structure IsF (K : PySem.W.Frag) (G : Gs) (c : Ctx) (k : String) (u : Value) : Prop where
  non : PySem.W.kitOne K (.type "NoneType") u = some false
  bl : PySem.W.kitOne K (.type "bool") u = some (k == "bool" || k == "int")
  int : PySem.W.kitOne K (.type "int") u = some (k == "int")
  str : PySem.W.kitOne K (.type "str") u = some (k == "str")
  tup : PySem.W.kitOne K (.type "tuple") u = some (k == "tuple")
  lst : PySem.W.kitOne K (.type "list") u = some (k == "list")
  obj : ∀ x, c.cls x = true → PySem.W.kitOne K (.ref (G.ca x)) u = some (x == k || (c.sub x).contains k)
/-- what is asked of the plain classes -/
structure InsF (K : PySem.W.Frag) (G : Gs) (c : Ctx) : Prop where
  cls : ∀ x, c.cls x = true → Cls K (G.ca x)
  ga : ∀ x, c.cls x = true → PySem.W.findIn K (.ref (G.ca x)) "__class__" = some (some (.builtin "object.__class__"))
  sp : PySem.W.specialIn K (.builtin "object.__class__") "__get__" = some (some (.builtin "getset_descriptor.__get__"))
  tk : PySem.W.takesIn K (.builtin "object.__class__") = some true
  mro : ∀ x, c.cls x = true → PySem.W.mroIn K (G.ca x) (.type "object") = some true

section
variable {X : Cx} {Js : SP} {G : Gs} {W : WX} {c : Ctx} {F : Addr → Prop} {H : Hp} {σ : L2.St} {A : Adr} {k : String} {u : Value}
theorem isi_of {d : D} {v : V} {res : Rs R} (hG : G = ⟨X.K, A.ca, A.fa⟩) (FI : IsF X.K G c k u) (FO : InsF X.K G c) (r : Rep1 G F H d v) (hp : prim c (.isi [k]) [d] = some res) :
    ∃ t b, TyX X.K H v t ∧ PySem.W.kitOne X.K t u = some b ∧ res = .ok (.d (.bl b)) := by
  cases d with
  | non => rw [rep1_non r]; exact ⟨_, _, .base .non, FI.non, by simp only [prim] at hp; simpa [isOne] using okd_eq hp⟩
  | bl b => rw [rep1_bl r]; exact ⟨_, _, .base (.bl b), FI.bl, by simp only [prim] at hp; simpa [isOne] using okd_eq hp⟩
  | int i => rw [rep1_int r]; exact ⟨_, _, .base (.int i), FI.int, by simp only [prim] at hp; simpa [isOne] using okd_eq hp⟩
  | str s => rw [rep1_str r]; exact ⟨_, _, .base (.str _), FI.str, by simp only [prim] at hp; simpa [isOne] using okd_eq hp⟩
  | tup ds =>
    have e : res = .ok (.d (.bl (k == "tuple"))) := by simp only [prim] at hp; simpa [isOne] using okd_eq hp
    simp only [Rep1, Rep] at r
    obtain ⟨a, vs, rfl, pl, _⟩ := r
    rcases pl with ⟨_, pl⟩ | pl
    · exact ⟨_, _, .base (.tup pl), FI.tup, e⟩
    · exact pl.elim
  | lst ds =>
    have e : res = .ok (.d (.bl (k == "list"))) := by simp only [prim] at hp; simpa [isOne] using okd_eq hp
    obtain ⟨a, vs, rfl, pl, _⟩ := r
    rw [hG] at pl
    rcases pl with (pl | ⟨o, pl⟩) | ⟨o, its, n, h1, h2, _⟩
    · exact ⟨_, _, .base (.lst pl), FI.lst, e⟩
    · exact ⟨_, _, .base (.frz pl), FI.lst, e⟩
    · exact ⟨_, _, .kList h1 h2, FI.lst, e⟩
  | dic kvs => simp [prim] at hp
  | obj x fs =>
    simp only [prim] at hp
    obtain ⟨g, hp⟩ := guardR_eq hp
    simp only [Rep1, Rep] at r
    obtain ⟨a, dx, xs, rfl, _, hH, _⟩ := r
    exact ⟨_, _, .base (.ins hH (FO.cls x g) (FO.ga x g) FO.sp FO.tk (FO.mro x g)), FI.obj x g, by simpa [isOne] using okd_eq hp⟩
  | fn x => simp [prim] at hp
  | nimp => simp [prim] at hp
theorem bw_isi {pa pk : Expr} {a : E} {cv : V} {p pos : Pos} (hG : G = ⟨X.K, A.ca, A.fa⟩) (FI : IsF X.K G c k u) (FO : InsF X.K G c) (ha : PE X pa (tM Js G W (RlA G) (argM a (ev c a)))) (hk : PE X pk (tC cv)) (cl : ClsV cv u) (hg : Gl X "isinstance") (hm : X.mg "isinstance" = none)
    (he : starEach [pa, pk] X.env = (false, eval pa X.env) :: starEach [pk] X.env) (he2 : starEach [pk] X.env = (false, eval pk X.env) :: starEach [] X.env) (hpl : (backTo pos (starEach [pk] X.env)).any (·.1) = false) :
    PE X (.Call (.Name "isinstance" p) [pa, pk] [] pos) (tE Js G W (ev c (.prim (.isi [k]) [a]))) := by
  refine PE.weak (pe_callB call_isi hg hm (by decide +kernel) (pa_cons ha (pa_cons hk pa_nil he2) he) (by decide) (by decide) he hpl) fun σ H Q ⟨F, ρ, fp, res, s, e, p'⟩ => ?_
  rw [ev_prim1] at e
  refine bindO s e p'.exc0 fun x ρ1 em e1 F1 fp1 H1 v f af rl => ?_
  cases hd : argsD ρ1 [x] with
  | none => rw [hd] at e1; cases e1
  | some l =>
    rw [hd] at e1
    obtain ⟨d1, h1, rfl⟩ := argsD1 hd
    simp only [M.lift] at e1
    cases hp : prim c (.isi [k]) [d1] with
    | none => rw [hp] at e1; cases e1
    | some r0 =>
      rw [hp] at e1
      simp only [Option.some.injEq] at e1
      subst e1
      obtain ⟨t, b, h2, h3, rfl⟩ := isi_of hG FI FO (RlA.rep1 af.sto rl h1) hp
      exact ⟨v, cv, t, u, b, rfl, cl, h2, h3, (p'.pp af).bl af.sto.fr⟩
end
end Mini
/-! Mini, part U: walks over range. -/
namespace Mini
open PySem L2

section
variable {X : Cx} {Js : SP} {G : Gs} {W : WX} {c : Ctx} {F : Addr → Prop} {H : Hp} {σ : L2.St} {A : Adr}
theorem walk_rng {es : List E} {ρ : Env} : walkS (.range es) (ev c (.range es)) ρ = M.bind (evi c es) (fun ds => M.bind (M.opt (ofRange ds)) fun l => M.pure (l, none)) ρ := by
  show M.bind (ev c (.range es)) (fun x => M.bind (M.opt (itemsN x.frz)) fun l => M.pure (l, none)) ρ = _
  simp only [ev, M.bind]
  cases evi c es ρ with
  | none => rfl
  | some z =>
    obtain ⟨r, ρ'⟩ := z
    cases r with
    | ex x => rfl
    | ok ds =>
      simp only [M.opt]
      cases ofRange ds with
      | none => rfl
      | some l => rfl
theorem evi_len : ∀ {es : List E} {ρ ρ' : Env} {ds : List D}, es.all (fun e => !isStar e) = true → evi c es ρ = some (.ok ds, ρ') → ds.length = es.length
  | [], ρ, ρ', ds, _, h => by
    simp only [evi, M.pure, Option.some.injEq, Prod.mk.injEq, Rs.ok.injEq] at h
    rw [← h.1]; rfl
  | e :: es, ρ, ρ', ds, hn, h => by
    simp only [List.all_cons, Bool.and_eq_true, Bool.not_eq_true'] at hn
    simp only [evi, itemM_val hn.1, M.bind_assoc, M.pure_bind, M.bind] at h
    cases h1 : ev c e ρ with
    | none => rw [h1] at h; cases h
    | some z =>
      obtain ⟨r, ρ1⟩ := z
      rw [h1] at h
      cases r with
      | ex x => cases h
      | ok r =>
        simp only [M.pure] at h
        cases h2 : evi c es ρ1 with
        | none => rw [h2] at h; cases h
        | some z =>
          obtain ⟨r2, ρ2⟩ := z
          rw [h2] at h
          cases r2 with
          | ex x => cases h
          | ok ds2 =>
            simp only [M.pure, Option.some.injEq, Prod.mk.injEq, Rs.ok.injEq] at h
            have := evi_len (es := es) (by simpa using hn.2) h2
            rw [← h.1]
            simp [this]
theorem rng_of {ds l : List D} {vs : List V} (rs : Reps G F H ds vs) (h : ofRange ds = some l) :
    (∃ b, vs = [.int b] ∧ ds.length = 1 ∧ b.natAbs < 2 ^ 62 ∧ l = nums 0 b.toNat) ∨ (∃ a b, vs = [.int a, .int b] ∧ ds.length = 2 ∧ a.natAbs < 2 ^ 62 ∧ b.natAbs < 2 ^ 62 ∧ l = nums a (b - a).toNat) := by
  unfold ofRange at h
  split at h
  · split at h
    · rename_i b g
      simp only [Option.some.injEq] at h
      simp only [Reps] at rs
      obtain ⟨v, q, rfl, r1, rfl⟩ := rs
      exact .inl ⟨b, by rw [rep1_int r1.rep1], rfl, of_decide_eq_true g, h.symm⟩
    · cases h
  · split at h
    · rename_i a b g
      simp only [Bool.and_eq_true, decide_eq_true_eq] at g
      simp only [Option.some.injEq] at h
      simp only [Reps] at rs
      obtain ⟨v, q, rfl, r1, u, q2, rfl, r2, rfl⟩ := rs
      exact .inr ⟨a, b, by rw [rep1_int r1.rep1, rep1_int r2.rep1], rfl, g.1, g.2, h.symm⟩
    · cases h
  · cases h
theorem bw_rng1 {tg pa : Expr} {e : E} {p pos : Pos} (hn : isStar e = false) (hg : Gl X "range") (hm : X.mg "range" = none) (ha : PA X [pa] (tM Js G W (RlI G) (evi c [e]))) (hs : starEach [pa] X.env = [(false, eval pa X.env)]) :
    PI X tg (.Call (.Name "range" p) [pa] [] pos) (tW Js G W (walkS (.range [e]) (ev c (.range [e])))) := by
  refine PI.weak (pi_range1 hg hm ha hs) fun σ H R ⟨F, ρ, fp, res, s, em, p'⟩ => ?_
  rw [walk_rng] at em
  refine bindO s em p'.exc0 fun ds ρ1 e0 e1 F1 fp1 H1 vs f af rl => ?_
  obtain ⟨rfl, rs⟩ := rl
  have hl := evi_len (by simp [hn]) e0
  simp only [M.bind, M.opt] at e1
  cases ho : ofRange ds with
  | none => rw [ho] at e1; cases e1
  | some l =>
    rw [ho] at e1
    simp only [M.pure, Option.some.injEq] at e1
    subst e1
    rcases rng_of rs ho with ⟨b, rfl, _, g, rfl⟩ | ⟨a, b, _, h2, _⟩
    · exact ⟨b, rfl, by omega, by omega, p' F1 fp1 H1 (Itr 0 b.toNat) [] af ⟨⟨[], fun _ h => by simp at h, ylds_range⟩, fun i x h => by cases h⟩⟩
    · simp at hl; omega
theorem bw_rng2 {tg pa pb : Expr} {e e' : E} {p pos : Pos} (hn : isStar e = false) (hn' : isStar e' = false) (hg : Gl X "range") (hm : X.mg "range" = none) (ha : PA X [pa, pb] (tM Js G W (RlI G) (evi c [e, e']))) (hs : starEach [pa, pb] X.env = [(false, eval pa X.env), (false, eval pb X.env)]) (hs2 : starEach [pb] X.env = [(false, eval pb X.env)]) :
    PI X tg (.Call (.Name "range" p) [pa, pb] [] pos) (tW Js G W (walkS (.range [e, e']) (ev c (.range [e, e'])))) := by
  refine PI.weak (pi_range2 hg hm ha hs (hs2 := hs2)) fun σ H R ⟨F, ρ, fp, res, s, em, p'⟩ => ?_
  rw [walk_rng] at em
  refine bindO s em p'.exc0 fun ds ρ1 e0 e1 F1 fp1 H1 vs f af rl => ?_
  obtain ⟨rfl, rs⟩ := rl
  have hl := evi_len (by simp [hn, hn']) e0
  simp only [M.bind, M.opt] at e1
  cases ho : ofRange ds with
  | none => rw [ho] at e1; cases e1
  | some l =>
    rw [ho] at e1
    simp only [M.pure, Option.some.injEq] at e1
    subst e1
    rcases rng_of rs ho with ⟨b, _, h2, _⟩ | ⟨a, b, rfl, _, g1, g2, rfl⟩
    · simp at hl; omega
    · exact ⟨a, b, rfl, ⟨by omega, by omega, by omega, by omega⟩, p' F1 fp1 H1 (Itr a (b - a).toNat) [] af ⟨⟨[], fun _ h => by simp at h, ylds_range⟩, fun i x h => by cases h⟩⟩

/-! ### comprehensions -/
theorem bw_lc {pelt ptg pit : Expr} {pifs : List Expr} {scope : Scope} {own : List (Str × Nat)} {pos : Pos} {elt src : E} {t : T} {cs : List E} (hc : X.calm = true) (hN : X.N.Nodup) (hnd : (varsT t).Nodup) (hi : PI X ptg pit (tW JT G W (walkS src (ev c src)))) (ok : BlkOk X.N X.env.scope scope own)
    (hg : ∀ (s : Shared) (H : Hp) (C : Addr) (cl : List (Str × Addr)) (fp : List Addr), PG (X.blk s H scope (compEnvC scope cl C X.env) fp) ptg (tG JT G c t)) (ht : ∀ (s : Shared) (H : Hp) (C : Addr) (cl : List (Str × Addr)) (fp : List Addr), PTs (X.blk s H scope (compEnvC scope cl C X.env) fp) pifs (tT JT G WN (evc c cs)))
    (he : ∀ (s : Shared) (H : Hp) (C : Addr) (cl : List (Str × Addr)) (fp : List Addr), PE (X.blk s H scope (compEnvC scope cl C X.env) fp) pelt (tE JT G WN (ev c elt))) (hs : ∀ x, foldedSetIterable pit X.env x = pure x) (hv : own.map (·.2) = varsT t) :
    PE X (.ListComp pelt [⟨ptg, pit, pifs, 0⟩] scope pos) (tE JT G W (ev c (.lc elt t src cs))) :=
  PE.weak (pe_lc hc hN hi ok hg ht he hs) fun σ H Q ⟨F, ρ, fp, res, s, e, p⟩ => by
    have := lc_of (wi := tW JT G W (walkS src (ev c src))) hnd s e p fun _ h => h
    rw [← hv] at this
    exact this
end
end Mini
/-! Mini, part V: dicts: a first tuple as key, stores. -/
namespace Mini
open PySem L2

section
variable {X : Cx} {σ : L2.St} {H : Hp}
/-- an empty dict may be one of tuples -/
theorem dKT {pins : List (Addr × Obj)} {s : Shared} {a : Addr} (I : Inv X pins σ H s) (e : H a = some (.dK [])) : Inv X pins σ (upd H a (.dT [])) s := by
  obtain ⟨z, hs, vs, kv, o, es, ep, ho, hx, hd, _, pr, _⟩ := (show ObjOk X.prog X.w H s.heap a (.dK []) from I.hok a _ e)
  cases kv
  have new : ObjOk X.prog X.w (upd H a (.dT [])) s.heap a (.dT []) := by
    refine ⟨Nat.zero_le _, hs, [], .nil, o, es, ep, ho, hx, hd, ?_, List.nodup_nil⟩
    cases he : es.toList with
    | nil => rfl
    | cons e l => rw [he] at pr; cases pr
  have := I.write (x := a) (e := a) (o := .dT []) (h' := s.heap) (t' := s.toks) (by rw [e]; trivial) (.inl rfl) (fun _ _ _ h => h) ⟨o, ho⟩ new
  exact this
/-- a store in a dict; an empty one takes the kind of its first key -/
def DPutX (H : Hp) (a : Addr) (y v : V) (H' : Hp) : Prop := DPut H a y v H' ∨ (H a = some (.dK []) ∧ DPut (upd H a (.dT [])) a y v H')
def sDPutX (td ty tv : TE) : TS := fun D σ H => tv σ H fun v H1 => td σ H1 fun x H2 => ty σ H2 fun y H3 => ∃ a H4, x = .ref a ∧ DPutX H3 a y v H4 ∧ D.nx σ H4
theorem ps_dputX {o i value : Expr} {td ty tv : TE} {pos pos' : Pos} (hu : X.A.units + 1 < cLine) (ho : PE X o td) (hi : PE X i ty) (hv : PE X value tv) (hs : swapsWith value (some (.Subscript o i pos')) pos.line X.env = pure false) :
    PS X (.Assign [.Subscript o i pos'] value pos) (sDPutX td ty tv) := by
  refine ⟨fun pins s σ H D I h => ?_⟩
  refine wpAny_Assign_Subscript (thn (hv.run pins s σ H _ I h) fun r s1 ⟨v, H1, I1, rv, q1⟩ => thn (ho.run pins s1 σ H1 _ I1 q1) fun u s2 ⟨x, H2, I2, rx, q2⟩ => thn (hi.run pins s2 σ H2 _ I2 q2) fun iv s3 ⟨y, H3, I3, ry, a, H4, ex, g, q3⟩ => ?_) hs
  subst ex
  obtain rfl : u = Value.ref a := rx
  rcases g with g | ⟨e, g⟩
  · exact d_setItem hu I3 g ry rv fun s4 I4 => ⟨σ, H4, I4, q3⟩
  · exact d_setItem hu (dKT I3 e) g ry rv fun s4 I4 => ⟨σ, H4, I4, q3⟩
end

section
variable {Js : SP} {G : Gs} {F F0 : Addr → Prop} {fp fp0 : Nat → List Addr} {H H0 : Hp} {ρ : Env} {σ : L2.St}
/-- what a slot holds alone changes in place -/
theorem Aft.updI (af : Aft Js G F0 fp0 H0 ρ σ F fp H []) {i : Nat} {r : R} {v : V} {a : Addr} {o : HO} (ha : a ∈ fp i) (hv : σ[i]? = some (some v)) (new : SlR G F (upd H a o) r v (fp i)) (no : ∀ xs, o ≠ .tup xs) : Aft Js G F0 fp0 H0 (ρ.set i (some r)) σ F fp (upd H a o) [] where
  st := ⟨af.st.sub, fun b u h n => by
    have : b ≠ a := fun e => by
      subst e
      rcases af.st.newO i b ha with ⟨j, hj⟩ | z
      · exact n j hj
      · rw [h] at z; cases z
    rw [upd_ne this]
    exact af.st.keep b u h n, af.st.new, af.st.newO⟩
  sto := by
    have nF : ∀ b, F b → b ≠ a := fun b h e => by subst e; exact (af.sto.out i b ha).1 h
    refine ⟨by simpa using af.sto.len, fun j q hj => ?_, af.sto.nd, af.sto.dj, fun j b hb => ⟨(af.sto.out j b hb).1, ?_⟩, fun b hb => by rw [upd_ne (nF b hb)]; exact af.sto.fr b hb, Js.m (fun _ h => h) (fun b hb => by rw [upd_ne (nF b hb)]) af.sto.j⟩
    · by_cases ej : j = i
      · subst ej
        have hi : j < ρ.length := by rw [af.sto.len]; exact (List.getElem?_eq_some_iff.mp hv).1
        rw [getI_set_same hi] at hj
        cases hj
        exact ⟨v, hv, new⟩
      · rw [getI_set_ne ej] at hj
        obtain ⟨u, e2, q2⟩ := af.sto.sl j q hj
        exact ⟨u, e2, q2.mono (fun _ h => h) (fun b hb => by rw [upd_ne (nF b hb)]) fun b hb => upd_ne fun e => by subst e; exact ej (af.sto.dj j i b hb ha)⟩
    · by_cases e : b = a
      · subst e
        exact ⟨by rw [upd_same]; simp, fun xs => by rw [upd_same]; exact fun z => no xs (Option.some.inj z)⟩
      · exact (af.sto.out j b hb).2.of (upd_ne e)
  tmp := .nil
  src := fun _ h => by simp at h
end

section
variable {Js : SP} {G : Gs} {F : Addr → Prop} {H : Hp}
theorem anyK_of : ∀ {kvs : List (D × D)} {ks : List (Key × V)} {d : D} {k : Key}, RepK G F H kvs ks → keyR d k → kvs.any (fun p => D.beq p.1 d) = ks.any (fun kv => decide (kv.1 = k))
  | [], _, _, _, h, _ => by simp only [RepK] at h; subst h; rfl
  | p :: r, _, d, k, h, hk => by
    simp only [RepK] at h
    obtain ⟨j, v, q, rfl, hp, hr⟩ := h
    obtain ⟨a, x⟩ := p
    simp only [RepKp] at hp
    simp only [List.any_cons, keyR_eq hp.1 hk, anyK_of hr hk]
theorem mapK_of : ∀ {kvs : List (D × D)} {ks : List (Key × V)} {d x : D} {k : Key} {v : V}, RepK G F H kvs ks → keyR d k → Rep G F H x v → RepK G F H (kvs.map fun p => if D.beq p.1 d then (p.1, x) else p) (ks.map fun kv => if kv.1 = k then (kv.1, v) else kv)
  | [], _, _, _, _, _, h, _, _ => by simp only [RepK] at h; subst h; simp [RepK]
  | p :: r, _, d, x, k, v, h, hk, hx => by
    simp only [RepK] at h
    obtain ⟨j, u, q, rfl, hp, hr⟩ := h
    obtain ⟨a, y⟩ := p
    simp only [RepKp] at hp
    simp only [List.map_cons, keyR_eq hp.1 hk, RepK]
    by_cases z : j = k
    · subst z
      simp only [decide_true, if_true]
      exact ⟨j, v, _, rfl, by simp only [RepKp]; exact ⟨hp.1, hx⟩, mapK_of hr hk hx⟩
    · simp only [z, decide_false, Bool.false_eq_true, if_false]
      exact ⟨j, u, _, rfl, by simp only [RepKp]; exact hp, mapK_of hr hk hx⟩
theorem appK_of : ∀ {kvs : List (D × D)} {ks : List (Key × V)} {d x : D} {k : Key} {v : V}, RepK G F H kvs ks → keyR d k → Rep G F H x v → RepK G F H (kvs ++ [(d, x)]) (ks ++ [(k, v)])
  | [], _, d, x, k, v, h, hk, hx => by
    simp only [RepK] at h
    subst h
    simp only [List.nil_append, RepK, RepKp]
    exact ⟨k, v, [], rfl, ⟨hk, hx⟩, rfl⟩
  | p :: r, _, d, x, k, v, h, hk, hx => by
    simp only [RepK] at h
    obtain ⟨j, u, q, rfl, hp, hr⟩ := h
    simp only [List.cons_append, RepK]
    exact ⟨j, u, _, rfl, hp, appK_of hr hk hx⟩
theorem putK_of {kvs : List (D × D)} {ks : List (Key × V)} {d x : D} {k : Key} {v : V} (h : RepK G F H kvs ks) (hk : keyR d k) (hx : Rep G F H x v) : RepK G F H (dPut d x kvs) (putK ks k v) := by
  unfold dPut putK
  rw [anyK_of h hk]
  split
  · exact mapK_of h hk hx
  · exact appK_of h hk hx
theorem anyT_of : ∀ {kvs : List (D × D)} {ks : List (List Key × V)} {d : D} {k : List Key}, RepT G F H kvs ks → keyT d k → kvs.any (fun p => D.beq p.1 d) = ks.any (fun kv => decide (kv.1 = k))
  | [], _, _, _, h, _ => by simp only [RepT] at h; subst h; rfl
  | p :: r, _, d, k, h, hk => by
    simp only [RepT] at h
    obtain ⟨j, v, q, rfl, hp, hr⟩ := h
    obtain ⟨a, x⟩ := p
    simp only [RepTp] at hp
    simp only [List.any_cons, keyT_eq hp.1 hk, anyT_of hr hk]
theorem mapT_of : ∀ {kvs : List (D × D)} {ks : List (List Key × V)} {d x : D} {k : List Key} {v : V}, RepT G F H kvs ks → keyT d k → Rep G F H x v → RepT G F H (kvs.map fun p => if D.beq p.1 d then (p.1, x) else p) (ks.map fun kv => if kv.1 = k then (kv.1, v) else kv)
  | [], _, _, _, _, _, h, _, _ => by simp only [RepT] at h; subst h; simp [RepT]
  | p :: r, _, d, x, k, v, h, hk, hx => by
    simp only [RepT] at h
    obtain ⟨j, u, q, rfl, hp, hr⟩ := h
    obtain ⟨a, y⟩ := p
    simp only [RepTp] at hp
    simp only [List.map_cons, keyT_eq hp.1 hk, RepT]
    by_cases z : j = k
    · subst z
      simp only [decide_true, if_true]
      exact ⟨j, v, _, rfl, by simp only [RepTp]; exact ⟨hp.1, hx⟩, mapT_of hr hk hx⟩
    · simp only [z, decide_false, Bool.false_eq_true, if_false]
      exact ⟨j, u, _, rfl, by simp only [RepTp]; exact hp, mapT_of hr hk hx⟩
theorem appT_of : ∀ {kvs : List (D × D)} {ks : List (List Key × V)} {d x : D} {k : List Key} {v : V}, RepT G F H kvs ks → keyT d k → Rep G F H x v → RepT G F H (kvs ++ [(d, x)]) (ks ++ [(k, v)])
  | [], _, d, x, k, v, h, hk, hx => by
    simp only [RepT] at h
    subst h
    simp only [List.nil_append, RepT, RepTp]
    exact ⟨k, v, [], rfl, ⟨hk, hx⟩, rfl⟩
  | p :: r, _, d, x, k, v, h, hk, hx => by
    simp only [RepT] at h
    obtain ⟨j, u, q, rfl, hp, hr⟩ := h
    simp only [List.cons_append, RepT]
    exact ⟨j, u, _, rfl, hp, appT_of hr hk hx⟩
theorem putT_of {kvs : List (D × D)} {ks : List (List Key × V)} {d x : D} {k : List Key} {v : V} (h : RepT G F H kvs ks) (hk : keyT d k) (hx : Rep G F H x v) : RepT G F H (dPut d x kvs) (putK ks k v) := by
  unfold dPut putK
  rw [anyT_of h hk]
  split
  · exact mapT_of h hk hx
  · exact appT_of h hk hx
theorem lenK : ∀ {kvs : List (D × D)} {ks : List (Key × V)}, RepK G F H kvs ks → kvs.length = ks.length
  | [], _, h => by simp only [RepK] at h; subst h; rfl
  | p :: r, _, h => by
    simp only [RepK] at h
    obtain ⟨j, u, q, rfl, _, hr⟩ := h
    simp [lenK hr]
theorem lenT : ∀ {kvs : List (D × D)} {ks : List (List Key × V)}, RepT G F H kvs ks → kvs.length = ks.length
  | [], _, h => by simp only [RepT] at h; subst h; rfl
  | p :: r, _, h => by
    simp only [RepT] at h
    obtain ⟨j, u, q, rfl, _, hr⟩ := h
    simp [lenT hr]
end
end Mini
/-! Mini, part W: x[k] = v. -/
namespace Mini
open PySem L2

section
variable {X : Cx} {Js : SP} {G : Gs} {W : WX} {c : Ctx} {F : Addr → Prop} {H : Hp} {σ : L2.St} {A : Adr}
def rSetX : TSet := fun o i v H Q => rSetL o i v H Q ∨ ∃ a H', o = .ref a ∧ DPutX H a i v H' ∧ Q H'
theorem set_x (hu : X.A.units + 1 < cLine) : PSet X rSetX := by
  intro pins s σ H o i v ov iv u Q I ro ri rv h
  rcases h with h | ⟨a, H', rfl, g, q⟩
  · exact set_list pins s σ H o i v ov iv u Q I ro ri rv h
  · cases (show ov = Value.ref a from ro)
    rcases g with g | ⟨e, g⟩
    · exact d_setItem hu I g ri rv fun s' I' => ⟨H', I', q⟩
    · exact d_setItem hu (dKT I e) g ri rv fun s' I' => ⟨H', I', q⟩
theorem reps_set : ∀ {ds l : List D} {vs : List V} {n : Nat} {d : D} {v : V}, Reps G F H ds vs → Rep G F H d v → setAt d n ds = some l → Reps G F H l (vs.set n v)
  | [], _, _, _, _, _, _, _, h => by simp [setAt] at h
  | x :: r, l, _, 0, d, v, rs, rd, h => by
    simp only [Reps] at rs
    obtain ⟨u, q, rfl, r1, r2⟩ := rs
    simp only [setAt, Option.some.injEq] at h
    subst h
    exact .cons rd r2
  | x :: r, l, _, n + 1, d, v, rs, rd, h => by
    simp only [Reps] at rs
    obtain ⟨u, q, rfl, r1, r2⟩ := rs
    simp only [setAt] at h
    cases e : setAt d n r with
    | none => rw [e] at h; cases h
    | some l' =>
      rw [e] at h
      simp only [Option.some.injEq] at h
      subst h
      exact .cons r1 (reps_set r2 rd e)
theorem same_kind {k : D} {kvs : List (D × D)} (h : sameKind k kvs = true) : ∀ {p : D × D} {r : List (D × D)}, kvs = p :: r → isTupD p.1 = isTupD k := fun {p r} e => by
  subst e
  simp only [sameKind, List.all_cons, Bool.and_eq_true] at h
  simpa using h.1
theorem bs_sub {i : Nat} {x : Str} {pe pk : Expr} {pos pos' ppos : Pos} {k e : E} (hG : G = ⟨X.K, A.ca, A.fa⟩) (hu : X.A.units + 1 < cLine) (hN : X.N[i]? = some x) (hv : Vis X.env.scope x) (hd : (x == ("__debug__" : Str)) = false) (hcd : (x == ("__classdict__" : Str)) = false)
    (hk : PE X pk (tE Js G W (ev c k))) (he : PE X pe (tE Js G W (ev c e))) {fx : List Nat}
    (ha : ∀ v, assign (.Subscript (.Name x ppos) pk pos') X.env v = (do
      let ov ← holding [v] (eval (.Name x ppos) X.env)
      let iv ← holding [v, ov] (eval pk X.env)
      standAt pos'
      holding [v, ov, iv] (setItem ov iv v)
      release [v, ov, iv] []))
    (hs : swapsWithSole [.Subscript (.Name x ppos) pk pos'] pe pos.line X.env = pure false) (hw : swappedStores [.Subscript (.Name x ppos) pk pos'] pe X.env = pure none) (h1 : (assignEach [.Subscript (.Name x ppos) pk pos'] X.env).map (·.2) = [assign (.Subscript (.Name x ppos) pk pos') X.env]) :
    PS X (.Assign [.Subscript (.Name x ppos) pk pos'] pe pos) (tS Js G W fx (ex c (.sub i [] k e))) := by
  refine PS.weak (ps_asg he (pg_sub (pe_var hN hv hd hcd) hk (set_x hu) ha) hs hw h1) fun D σ H ⟨F, ρ, fp, res, s, em, p⟩ => ?_
  simp only [ex] at em
  refine bindO s em p.exc0 fun v ρ1 em1 e1 F1 fp1 H1 vv f af rl => ?_
  have af1 := af.frz
  have rep := af.frzRep rl
  cases hr : getI ρ1 i with
  | none => simp [M.bind, argM, getL, hr] at e1
  | some r0 =>
    obtain ⟨u, hu1, _⟩ := af1.sto.sl i r0 hr
    refine ⟨u, hu1, ?_⟩
    have e2 : M.bind (ev c k) (fun k => M.bind (modL i [] fun x => match x with
      | .dic kvs => if isKey k.frz && sameKind k.frz kvs && decide (kvs.length < sizeMax) then some (.dic (dPut k.frz v.frz kvs), ()) else none
      | .lst ds => match k.frz with
        | .int j => match (ixNat ds.length j).bind fun n => setAt v.frz n ds with | some l => some (.lst l, ()) | none => none
        | _ => none
      | _ => none) fun _ => M.pure .nx) ρ1 = some res := by
      have : argM (.loc i []) M.fail ρ1 = some (.ok (.p i []), ρ1) := by simp [argM, getL, hr, getP]
      simp only [M.bind, this] at e1
      exact e1
    refine bindO af1.sto e2 (p.exc af1) fun kr ρ2 em2 e3 F2 fp2 H2 kv f2 af2 rl2 => ?_
    have af2' := af2.frz
    have krep := af2.frzRep rl2
    have a2 := af1.trans af2'
    have vrep := af2'.st.rep af1.sto rep
    simp only [M.bind, modL, getL] at e3
    cases hr2 : getI ρ2 i with
    | none => rw [hr2] at e3; cases e3
    | some r2 =>
      rw [hr2] at e3
      simp only [getP] at e3
      obtain ⟨u2, hu2, sl2⟩ := a2.sto.sl i r2 hr2
      rw [hu1] at hu2
      cases hu2
      cases r2 with
      | d x => cases e3
      | obj cc fs => cases e3
      | own y =>
        simp only [SlR] at sl2
        obtain ⟨a, rfl, hfp, ow⟩ := sl2
        have hmem : a ∈ fp2 i := by rw [hfp]; simp
        have hput : ∀ z : Mini.D, putL ρ2 i [] (.own z) = some (ρ2.set i (some (.own z))) := fun z => by simp only [putL, hr2, putP]
        cases y with
        | lst ds =>
          simp only at e3
          cases hk2 : kr.frz with
          | int j =>
            rw [hk2] at e3 krep
            simp only at e3
            cases hs2 : (ixNat ds.length j).bind (fun n => setAt v.frz n ds) with
            | none => rw [hs2] at e3; cases e3
            | some l =>
              rw [hs2] at e3
              simp only [hput, M.pure, Option.some.injEq] at e3
              subst e3
              obtain ⟨vs, hH, rs⟩ := ow
              cases hn : ixNat ds.length j with
              | none => rw [hn] at hs2; cases hs2
              | some n =>
                rw [hn] at hs2
                simp only [Option.bind_some] at hs2
                have hl2 := reps_set rs vrep hs2
                refine .inl ⟨a, vs, j, n, rfl, rep1_int krep.rep1, hH, by rw [← ixNat_eq, ← rs.length]; exact hn, ?_⟩
                have nF : ∀ b, ((F2 b ∨ b ∈ f2)) → b ≠ a := fun b hb e => by subst e; exact (a2.sto.out i b hmem).1 hb
                refine p _ fp2 _ σ (a2.updI hmem hu1 (r := .own (.lst l)) (o := .lst (vs.set n vv)) ?_ fun _ z => nomatch z) .refl
                simp only [SlR]
                exact ⟨a, rfl, hfp, vs.set n vv, upd_same, hl2.mono (fun _ h => h) fun b hb => by rw [upd_ne (nF b hb)]⟩
          | _ => rw [hk2] at e3; cases e3
        | dic kvs =>
          simp only at e3
          by_cases hg : (isKey kr.frz && sameKind kr.frz kvs && decide (kvs.length < sizeMax)) = true
          · rw [if_pos hg] at e3
            simp only [hput, M.pure, Option.some.injEq] at e3
            subst e3
            simp only [Bool.and_eq_true, decide_eq_true_eq] at hg
            obtain ⟨⟨g1, g2⟩, g3⟩ := hg
            have nF : ∀ b, ((F2 b ∨ b ∈ f2)) → b ≠ a := fun b hb e => by subst e; exact (a2.sto.out i b hmem).1 hb
            have hz := sizeMax_le
            have go : ∀ (o : HO), (∀ xs, o ≠ .tup xs) → OwnAt G (fun b => F2 b ∨ b ∈ f2) (upd H2 a o) a (.dic (dPut kr.frz v.frz kvs)) → D.nx σ (upd H2 a o) := fun o no oa => by
              refine p _ fp2 _ σ (a2.updI hmem hu1 (r := .own (.dic (dPut kr.frz v.frz kvs))) (o := o) ?_ no) .refl
              simp only [SlR]
              exact ⟨a, rfl, hfp, oa⟩
            rcases key_of g1 krep.rep1 with ⟨kk, k1, rfl⟩ | ⟨kk, b, k1, rfl, hb⟩
            · rcases ow with ⟨ks, hH, rk⟩ | ⟨ks, ne, hH, rt⟩
              · refine .inr ⟨a, _, rfl, .inl (.inl ⟨ks, kk, hH, rfl, by rw [← lenK rk]; omega, rfl⟩), go _ (fun _ z => nomatch z) (.inl ⟨_, upd_same, ?_⟩)⟩
                exact (putK_of rk k1 vrep).mono (fun _ h => h) fun b hb => by rw [upd_ne (nF b hb)]
              · exfalso
                cases kvs with
                | nil => exact ne rfl
                | cons pr kvs =>
                  have := same_kind g2 rfl
                  simp only [RepT] at rt
                  obtain ⟨j, w, q, rfl, hp, _⟩ := rt
                  obtain ⟨p1, p2⟩ := pr
                  simp only [RepTp] at hp
                  cases p1 <;> first | (exact hp.1.elim) | skip
                  cases hkr : kr.frz <;> rw [hkr] at this k1 <;> first | (simp [isTupD] at this; done) | (cases kk <;> exact k1)
            · have htk : isTupD kr.frz = true := by
                cases hkr : kr.frz <;> rw [hkr] at k1 <;> first | rfl | exact k1.elim
              rcases ow with ⟨ks, hH, rk⟩ | ⟨ks, ne, hH, rt⟩
              · cases kvs with
                | nil =>
                  simp only [RepK] at rk
                  subst rk
                  have nb : b ≠ a := fun e => by subst e; rw [hH] at hb; cases hb
                  refine .inr ⟨a, upd H2 a (.dT (putK [] kk vv)), rfl, .inr ⟨hH, .inr ⟨[], kk, b, upd_same, rfl, by rw [upd_ne nb]; exact hb, by (simp; rw [sizeLine_eq]; omega), ?_⟩⟩, go _ (fun _ z => nomatch z) (.inr ⟨_, ?_, upd_same, ?_⟩)⟩
                  · funext b'
                    by_cases e : b' = a
                    · subst e; rw [upd_same, upd_same]
                    · rw [upd_ne e, upd_ne e, upd_ne e]
                  · simp [dPut]
                  · exact (putT_of (kvs := []) (ks := []) (by simp [RepT]) k1 vrep).mono (fun _ h => h) fun b hb => by rw [upd_ne (nF b hb)]
                | cons pr kvs =>
                  exfalso
                  have := same_kind g2 rfl
                  simp only [RepK] at rk
                  obtain ⟨j, w, q, rfl, hp, _⟩ := rk
                  obtain ⟨p1, p2⟩ := pr
                  simp only [RepKp] at hp
                  rw [htk] at this
                  cases p1 <;> first | (simp [isTupD] at this; done) | (cases j <;> exact hp.1)
              · refine .inr ⟨a, _, rfl, .inl (.inr ⟨ks, kk, b, hH, rfl, hb, by rw [← lenT rt]; omega, rfl⟩), go _ (fun _ z => nomatch z) (.inr ⟨_, ?_, upd_same, ?_⟩)⟩
                · unfold dPut
                  split
                  · intro z
                    exact ne (by simpa using z)
                  · simp
                · exact (putT_of rt k1 vrep).mono (fun _ h => h) fun b hb => by rw [upd_ne (nF b hb)]
          · rw [if_neg hg] at e3; cases e3
        | _ => exact ow.elim
end
end Mini
/-! Mini, part X: attributes. -/
namespace Mini
open PySem L2

/-- where the attribute is one of the instances alone -/
def AttF (K : PySem.W.Frag) (G : Gs) (c : Ctx) (f : String) : Prop := ∀ k, c.att k f = true → Cls K (G.ca k) ∧ NoAttr K (G.ca k) (Str.ofString f)
section
variable {Js : SP} {G : Gs} {F F0 : Addr → Prop} {fp fp0 : Nat → List Addr} {H H0 : Hp} {ρ : Env} {σ : L2.St}
theorem slf_get {f : String} {q : R} : ∀ {xs : List (String × R)} {ys : List (Str × V)} {fr : List Addr}, SlRf G F H xs ys fr → getFR f xs = some q → ∃ v g, ys.lookup (Str.ofString f) = some v ∧ SlR G F H q v g
  | [], _, _, h, e => by simp [getFR] at e
  | p :: r, _, _, h, e => by
    simp only [SlRf] at h
    obtain ⟨v, w, f1, f2, rfl, h1, h2, rfl⟩ := h
    obtain ⟨g, p2⟩ := p
    simp only [getFR] at e
    simp only [SlRp] at h1
    by_cases z : g = f
    · rw [if_pos z] at e
      cases e
      subst z
      exact ⟨v, f1, by simp [List.lookup], h1⟩
    · rw [if_neg z] at e
      obtain ⟨u, g', e1, e2⟩ := slf_get h2 e
      refine ⟨u, g', ?_, e2⟩
      have nb : (Str.ofString f == Str.ofString g) = false := beq_eq_false_iff_ne.mpr (ofString_ne (Ne.symm z))
      simp only [List.lookup, nb, e1]
theorem repf_get {f : String} {q : D} : ∀ {xs : List (String × D)} {ys : List (Str × V)}, Repf G F H xs ys → getF f xs = some q → ∃ v, ys.lookup (Str.ofString f) = some v ∧ Rep G F H q v
  | [], _, h, e => by simp [getF] at e
  | p :: r, _, h, e => by
    simp only [Repf] at h
    obtain ⟨v, w, rfl, h1, h2⟩ := h
    obtain ⟨g, p2⟩ := p
    simp only [getF] at e
    simp only [Repfp] at h1
    by_cases z : g = f
    · rw [if_pos z] at e
      cases e
      subst z
      exact ⟨v, by simp [List.lookup], h1⟩
    · rw [if_neg z] at e
      obtain ⟨u, e1, e2⟩ := repf_get h2 e
      refine ⟨u, ?_, e2⟩
      have nb : (Str.ofString f == Str.ofString g) = false := beq_eq_false_iff_ne.mpr (ofString_ne (Ne.symm z))
      simp only [List.lookup, nb, e1]
theorem slf_len : ∀ {xs : List (String × R)} {ys : List (Str × V)} {fr : List Addr}, SlRf G F H xs ys fr → ys.length = xs.length
  | [], _, _, h => by simp only [SlRf] at h; rw [h.1]; rfl
  | p :: r, _, _, h => by
    simp only [SlRf] at h
    obtain ⟨v, w, f1, f2, rfl, _, h2, _⟩ := h
    simp [slf_len h2]
theorem slf_put {f : String} {q : R} {v : V} {f1 : List Addr} (hq : SlR G F H q v f1) : ∀ {xs : List (String × R)} {ys : List (Str × V)} {fr : List Addr}, SlRf G F H xs ys fr →
    ∃ g, SlRf G F H (putFR f q xs) (putF (Str.ofString f) v ys) g ∧ (∀ b, b ∈ g → b ∈ fr ∨ b ∈ f1) ∧ (fr.Nodup → f1.Nodup → (∀ b, b ∈ f1 → b ∉ fr) → g.Nodup)
  | [], _, _, h => by
    simp only [SlRf] at h
    obtain ⟨rfl, rfl⟩ := h
    refine ⟨f1 ++ [], ?_, fun b hb => .inr (by simpa using hb), fun _ n _ => by simpa using n⟩
    simp only [putFR, putF, SlRf, SlRp]
    exact ⟨v, [], f1, [], rfl, hq, ⟨rfl, rfl⟩, rfl⟩
  | p :: r, _, _, h => by
    simp only [SlRf] at h
    obtain ⟨u, w, g1, g2, rfl, h1, h2, rfl⟩ := h
    obtain ⟨g, p2⟩ := p
    by_cases z : g = f
    · subst z
      refine ⟨f1 ++ g2, ?_, fun b hb => ?_, fun n1 n2 d => ?_⟩
      · simp only [putFR, putF, if_true, SlRf, SlRp]
        exact ⟨v, w, f1, g2, rfl, hq, h2, rfl⟩
      · rcases List.mem_append.mp hb with hb | hb
        · exact .inr hb
        · exact .inl (List.mem_append_right _ hb)
      · refine List.nodup_append.mpr ⟨n2, (List.nodup_append.mp n1).2.1, fun b hb x hx e => ?_⟩
        subst e
        exact d b hb (List.mem_append_right _ hx)
    · obtain ⟨g', e1, e2, e3⟩ := slf_put (f := f) hq h2
      refine ⟨g1 ++ g', ?_, fun b hb => ?_, fun n1 n2 d => ?_⟩
      · have ne : ¬ Str.ofString g = Str.ofString f := ofString_ne z
        simp only [putFR, putF, if_neg z, if_neg ne, SlRf]
        exact ⟨u, _, g1, g', rfl, h1, e1, rfl⟩
      · rcases List.mem_append.mp hb with hb | hb
        · exact .inl (List.mem_append_left _ hb)
        · exact (e2 b hb).imp (List.mem_append_right _) id
      · obtain ⟨a1, a2, a3⟩ := List.nodup_append.mp n1
        refine List.nodup_append.mpr ⟨a1, e3 a2 n2 fun b hb hx => d b hb (List.mem_append_right _ hx), fun b hb x hx e => ?_⟩
        subst e
        rcases e2 b hx with hx | hx
        · exact a3 b hb b hx rfl
        · exact d b hx (List.mem_append_left _ hb)
/-- what a slot holds alone changes in place, and takes in what is held for the time -/
theorem Aft.updO {f g : List Addr} (af : Aft Js G F0 fp0 H0 ρ σ F fp H f) {i : Nat} {r : R} {v : V} {a : Addr} {o : HO} (ha : a ∈ fp i) (hv : σ[i]? = some (some v)) (new : SlR G F (upd H a o) r v g) (gn : g.Nodup) (gm : ∀ b, b ∈ g → b ∈ fp i ∨ b ∈ f)
    (no : ∀ xs, o ≠ .tup xs) : Aft Js G F0 fp0 H0 (ρ.set i (some r)) σ F (fpSet fp i g) (upd H a o) [] where
  st := ⟨af.st.sub, fun b u h n => by
    have : b ≠ a := fun e => by
      subst e
      rcases af.st.newO i b ha with ⟨j, hj⟩ | z
      · exact n j hj
      · rw [h] at z; cases z
    rw [upd_ne this]
    exact af.st.keep b u h n, af.st.new, fun j b hb => by
    by_cases ej : j = i
    · subst ej
      rw [fpSet_same] at hb
      exact (gm b hb).elim (af.st.newO j b) (af.src b)
    · rw [fpSet_ne ej] at hb
      exact af.st.newO j b hb⟩
  sto := by
    have nF : ∀ b, F b → b ≠ a := fun b h e => by subst e; exact (af.sto.out i b ha).1 h
    have mem : ∀ j b, b ∈ fpSet fp i g j → (j = i ∧ b ∈ g) ∨ (j ≠ i ∧ b ∈ fp j) := fun j b hb => by
      by_cases e : j = i
      · subst e; rw [fpSet_same] at hb; exact .inl ⟨rfl, hb⟩
      · rw [fpSet_ne e] at hb; exact .inr ⟨e, hb⟩
    have hO : ∀ b, ¬ F b ∧ Ow H b → ¬ F b ∧ Ow (upd H a o) b := fun b hb => ⟨hb.1, by
      by_cases e : b = a
      · subst e
        exact ⟨by rw [upd_same]; simp, fun xs => by rw [upd_same]; exact fun z => no xs (Option.some.inj z)⟩
      · exact hb.2.of (upd_ne e)⟩
    refine ⟨by simpa using af.sto.len, fun j q hj => ?_, fun j => ?_, fun j k b h1 h2 => ?_, fun j b hb => ?_, fun b hb => by rw [upd_ne (nF b hb)]; exact af.sto.fr b hb, Js.m (fun _ h => h) (fun b hb => by rw [upd_ne (nF b hb)]) af.sto.j⟩
    · by_cases ej : j = i
      · subst ej
        have hi : j < ρ.length := by rw [af.sto.len]; exact (List.getElem?_eq_some_iff.mp hv).1
        rw [getI_set_same hi] at hj
        cases hj
        exact ⟨v, hv, by rw [fpSet_same]; exact new⟩
      · rw [getI_set_ne ej] at hj
        obtain ⟨u, e2, q2⟩ := af.sto.sl j q hj
        exact ⟨u, e2, by rw [fpSet_ne ej]; exact q2.mono (fun _ h => h) (fun b hb => by rw [upd_ne (nF b hb)]) fun b hb => upd_ne fun e => by subst e; exact ej (af.sto.dj j i b hb ha)⟩
    · by_cases ej : j = i
      · subst ej; rw [fpSet_same]; exact gn
      · rw [fpSet_ne ej]; exact af.sto.nd j
    · rcases mem j b h1 with ⟨e1, m1⟩ | ⟨e1, m1⟩ <;> rcases mem k b h2 with ⟨e2, m2⟩ | ⟨e2, m2⟩
      · rw [e1, e2]
      · rcases gm b m1 with m1 | m1
        · exact absurd (af.sto.dj i k b m1 m2).symm e2
        · exact absurd m2 (af.tmp.dj k b m1)
      · rcases gm b m2 with m2 | m2
        · exact absurd (af.sto.dj j i b m1 m2) e1
        · exact absurd m1 (af.tmp.dj j b m2)
      · exact af.sto.dj j k b m1 m2
    · rcases mem j b hb with ⟨e1, m1⟩ | ⟨e1, m1⟩
      · rcases gm b m1 with m1 | m1
        · exact hO b (af.sto.out i b m1)
        · exact hO b (af.tmp.out b m1)
      · exact hO b (af.sto.out j b m1)
  tmp := .nil
  src := fun _ h => by simp at h
end

section
variable {X : Cx} {Js : SP} {G : Gs} {W : WX} {c : Ctx} {σ : L2.St} {A : Adr}
def RlP (G : Gs) : L2.St → R → Env → V → (Addr → Prop) → Hp → List Addr → Prop := fun _ r _ v F H f => f = [] ∧ ∃ g, SlR G F H r v g
theorem bw_pk0 {i : Nat} {x : Str} {pos : Pos} (hN : X.N[i]? = some x) (hv : Vis X.env.scope x) (hd : (x == ("__debug__" : Str)) = false) (hcd : (x == ("__classdict__" : Str)) = false) :
    PE X (.Name x pos) (tM Js G W (RlP G) (peekM c i [])) := by
  refine PE.weak (pe_var hN hv hd hcd) fun σ H Q ⟨F, ρ, fp, res, s, e, p⟩ => ?_
  simp only [peekM] at e
  cases hr : getI ρ i with
  | none => rw [hr] at e; cases e
  | some r =>
    rw [hr] at e
    simp only [pathOk, if_true, getP, Option.some.injEq] at e
    subst e
    obtain ⟨v, e2, q⟩ := s.sl i r hr
    exact ⟨v, e2, p F fp H v [] (.refl s) ⟨rfl, _, q⟩⟩
theorem getP_snoc {f : String} : ∀ {fs : List String} {r : R}, getP r (fs ++ [f]) = (getP r fs).bind fun q => getP q [f]
  | [], r => by simp [getP]
  | g :: fs, r => by
    simp only [List.cons_append, getP]
    cases r with
    | obj k xs =>
      simp only
      cases getFR g xs with
      | none => rfl
      | some q => exact getP_snoc
    | d x =>
      cases x <;> simp only [Option.bind_none] <;> try rfl
      rename_i k xs
      cases getF g xs with
      | none => rfl
      | some q => exact getP_snoc
    | own x => rfl
theorem pathOk_snoc {f : String} : ∀ {fs : List String} {r : R}, pathOk c r (fs ++ [f]) = true → pathOk c r fs = true ∧ ∃ q, getP r fs = some q ∧ pathOk c q [f] = true
  | [], r, h => ⟨rfl, r, rfl, h⟩
  | g :: fs, r, h => by
    simp only [List.cons_append, pathOk] at h ⊢
    simp only [getP]
    cases r with
    | obj k xs =>
      simp only [Bool.and_eq_true] at h ⊢
      obtain ⟨h1, h2⟩ := h
      cases e : getFR g xs with
      | none => rw [e] at h2; cases h2
      | some q =>
        rw [e] at h2
        obtain ⟨a, b⟩ := pathOk_snoc h2
        exact ⟨⟨h1, a⟩, b⟩
    | d x =>
      cases x <;> simp only at h <;> try (cases h; done)
      rename_i k xs
      simp only [Bool.and_eq_true] at h ⊢
      obtain ⟨h1, h2⟩ := h
      cases e : getF g xs with
      | none => rw [e] at h2; cases h2
      | some q =>
        rw [e] at h2
        obtain ⟨a, b⟩ := pathOk_snoc h2
        exact ⟨⟨h1, a⟩, b⟩
    | own x => cases h
theorem step_att {F : Addr → Prop} {H : Hp} {f : String} {q q' : R} {v : V} {g : List Addr} (FA : AttF X.K G c f) (h : SlR G F H q v g) (e1 : pathOk c q [f] = true) (e2 : getP q [f] = some q') :
    ∃ a C dx fs u, v = .ref a ∧ H a = some (.ins C dx fs) ∧ Cls X.K C ∧ NoAttr X.K C (Str.ofString f) ∧ fs.lookup (Str.ofString f) = some u ∧ ∃ g', SlR G F H q' u g' := by
  cases q with
  | obj k xs =>
    simp only [pathOk, getP, Bool.and_eq_true] at e1 e2
    simp only [SlR] at h
    obtain ⟨a, dx, ys, fr, rfl, hH, hf, _⟩ := h
    cases e : getFR f xs with
    | none => rw [e] at e2; cases e2
    | some z =>
      rw [e] at e2
      simp only [Option.some.injEq] at e2
      subst e2
      obtain ⟨u, g', l, r⟩ := slf_get hf e
      exact ⟨a, _, dx, ys, u, rfl, hH, (FA k e1.1).1, (FA k e1.1).2, l, g', r⟩
  | d x =>
    cases x <;> simp only [pathOk] at e1 <;> try (cases e1; done)
    rename_i k xs
    simp only [getP, Bool.and_eq_true] at e1 e2
    simp only [SlR, Rep] at h
    obtain ⟨_, a, dx, ys, rfl, _, hH, hf⟩ := h
    cases e : getF f xs with
    | none => rw [e] at e2; cases e2
    | some z =>
      rw [e] at e2
      simp only [Option.some.injEq] at e2
      subst e2
      obtain ⟨u, l, r⟩ := repf_get hf e
      exact ⟨a, _, dx, ys, u, rfl, hH, (FA k e1.1).1, (FA k e1.1).2, l, [], by simp only [SlR]; exact ⟨trivial, r⟩⟩
  | own x => simp [pathOk] at e1
theorem bw_pk1 {pe : Expr} {i : Nat} {fs : List String} {f : String} {x : Str} {pos : Pos} (hx : x = Str.ofString f) (FA : AttF X.K G c f) (h : PE X pe (tM Js G W (RlP G) (peekM c i fs))) (hb : attributeBase pe x X.env (eval pe X.env) = eval pe X.env) :
    PE X (.Attribute pe x pos) (tM Js G W (RlP G) (peekM c i (fs ++ [f]))) := by
  subst hx
  refine PE.weak (pe_fld h hb) fun σ H Q ⟨F, ρ, fp, res, s, e, p⟩ => ?_
  simp only [peekM] at e
  cases hr : getI ρ i with
  | none => rw [hr] at e; cases e
  | some r =>
    rw [hr] at e
    simp only at e
    by_cases hok : pathOk c r (fs ++ [f]) = true
    · rw [if_pos hok, getP_snoc] at e
      obtain ⟨o1, q, eq, o2⟩ := pathOk_snoc hok
      rw [eq, Option.bind_some] at e
      cases e2 : getP q [f] with
      | none => rw [e2] at e; cases e
      | some q' =>
        rw [e2] at e
        simp only [Option.some.injEq] at e
        subst e
        refine ⟨F, ρ, fp, (.ok q, ρ), s, by simp only [peekM, hr, o1, if_true, eq], fun F1 fp1 H1 v g af rl => ?_⟩
        obtain ⟨rfl, g', sl⟩ := rl
        obtain ⟨a, C, dx, ys, u, ev, hH, c1, c2, l, g2, sl2⟩ := step_att FA sl o2 e2
        exact ⟨a, C, dx, ys, u, ev, hH, c1, c2, l, p F1 fp1 H1 u [] af ⟨rfl, g2, sl2⟩⟩
    · rw [if_neg hok] at e; cases e
theorem bw_fld {pe : Expr} {i : Nat} {fs : List String} (h : PE X pe (tM Js G W (RlP G) (peekM c i fs))) : PE X pe (tE Js G W (ev c (.fld i fs))) := by
  refine PE.weak h fun σ H Q ⟨F, ρ, fp, res, s, e, p⟩ => ?_
  simp only [ev] at e
  refine bindO s e p.exc0 fun r ρ1 em e1 F1 fp1 H1 v f af rl => ?_
  obtain ⟨rfl, g, sl⟩ := rl
  cases r with
  | d x =>
    simp only [dataM, M.pure, Option.some.injEq] at e1
    subst e1
    simp only [SlR] at sl
    exact p F1 fp1 H1 v [] af (by simp only [RlV, SlR]; exact ⟨trivial, sl.2⟩)
  | own x => simp only [dataM, M.fail] at e1; cases e1
  | obj k xs => simp only [dataM, M.fail] at e1; cases e1
theorem bw_attr {pe : Expr} {e : E} {f : String} {x : Str} {pos : Pos} (hx : x = Str.ofString f) (FA : AttF X.K G c f) (h : PE X pe (tE Js G W (ev c e))) (hb : attributeBase pe x X.env (eval pe X.env) = eval pe X.env) :
    PE X (.Attribute pe x pos) (tE Js G W (ev c (.attr e f))) := by
  subst hx
  refine PE.weak (pe_fld h hb) fun σ H Q ⟨F, ρ, fp, res, s, em, p⟩ => ?_
  simp only [ev] at em
  refine bindO s em p.exc0 fun r ρ1 e0 e1 F1 fp1 H1 v g af rl => ?_
  have rep := af.frzRep rl
  cases hz : r.frz <;> rw [hz] at e1 <;> try (cases e1; done)
  rename_i k xs
  rw [hz] at rep
  simp only at e1
  by_cases hk : c.att k f = true
  · rw [if_pos hk] at e1
    simp only [fldOf, M.opt] at e1
    cases e : getF f xs with
    | none => rw [e] at e1; cases e1
    | some z =>
      rw [e] at e1
      simp only [Option.map_some, Option.some.injEq] at e1
      subst e1
      simp only [Rep] at rep
      obtain ⟨a, dx, ys, rfl, _, hH, hf⟩ := rep
      obtain ⟨u, l, r⟩ := repf_get hf e
      exact ⟨a, _, dx, ys, u, rfl, hH, (FA k hk).1, (FA k hk).2, l, p _ fp1 H1 u [] af.frz (by simp only [RlV, SlR]; exact ⟨trivial, r⟩)⟩
  · rw [if_neg hk] at e1; cases e1
theorem bs_fld {i : Nat} {x fx0 : Str} {f : String} {pe : Expr} {pos pos' ppos : Pos} {e : E} {fx : List Nat} (hf : fx0 = Str.ofString f) (FA : AttF X.K G c f) (hN : X.N[i]? = some x) (hv : Vis X.env.scope x) (hd : (x == ("__debug__" : Str)) = false) (hcd : (x == ("__classdict__" : Str)) = false)
    (he : PE X pe (tE Js G W (ev c e))) (hs : swapsWith pe (some (.Attribute (.Name x ppos) fx0 pos')) pos.line X.env = pure false) :
    PS X (.Assign [.Attribute (.Name x ppos) fx0 pos'] pe pos) (tS Js G W fx (ex c (.fld i [] f e))) := by
  subst hf
  refine PS.weak (ps_fld (pe_var hN hv hd hcd) he hs) fun DD σ H ⟨F, ρ, fp, res, s, em, p⟩ => ?_
  simp only [ex] at em
  refine bindO s em p.exc0 fun q ρ1 e0 e1 F1 fp1 H1 v g af rl => ?_
  simp only [getL] at e1
  cases hr : getI ρ1 i with
  | none => rw [hr] at e1; cases e1
  | some r =>
    rw [hr] at e1
    simp only [getP] at e1
    cases r with
    | d y => cases e1
    | own y => cases e1
    | obj k xs =>
      simp only at e1
      by_cases hk : (c.att k f && decide (xs.length < 900)) = true
      · rw [if_pos hk] at e1
        simp only [putL, hr, putP, Option.some.injEq] at e1
        subst e1
        simp only [Bool.and_eq_true, decide_eq_true_eq] at hk
        obtain ⟨u, hu, sl⟩ := af.sto.sl i _ hr
        refine ⟨u, hu, ?_⟩
        have nd := af.sto.nd i
        simp only [SlR] at sl
        obtain ⟨a, dx, ys, fr, rfl, hH, hf, hfp⟩ := sl
        have ha : a ∈ fp1 i := by rw [hfp]; simp
        rw [hfp] at nd
        obtain ⟨na, nfr⟩ := List.nodup_cons.mp nd
        obtain ⟨g', s1, m1, n1⟩ := slf_put (f := f) (show SlR G F1 H1 q v g from rl) hf
        have ng : ∀ b, b ∈ g → b ∉ fp1 i := fun b hb => af.tmp.dj i b hb
        have nea : ∀ b, b ∈ g' → b ≠ a := fun b hb e => by
          subst e
          rcases m1 b hb with m | m
          · exact na m
          · exact ng b m ha
        have nF : ∀ b, F1 b → b ≠ a := fun b h e => by subst e; exact (af.sto.out i b ha).1 h
        refine ⟨a, _, dx, ys, rfl, hH, (FA k hk.1).1, (FA k hk.1).2, by rw [slf_len hf]; omega, ?_⟩
        refine p F1 _ _ σ (af.updO (i := i) (r := .obj k (putFR f q xs)) (v := .ref a) (g := a :: g') ha hu ?_ (List.nodup_cons.mpr ⟨fun h => nea a h rfl, n1 nfr af.tmp.nd fun b hb hx => ng b hb (by rw [hfp]; exact List.mem_cons_of_mem _ hx)⟩) (fun b hb => ?_) fun _ z => nomatch z) .refl
        · simp only [SlR]
          exact ⟨a, dx, _, g', rfl, upd_same, s1.mono (fun _ h => h) (fun b hb => by rw [upd_ne (nF b hb)]) fun b hb => upd_ne (nea b hb), rfl⟩
        · rcases List.mem_cons.mp hb with e | hb
          · exact .inl (by rw [e]; exact ha)
          · exact (m1 b hb).imp (fun m => by rw [hfp]; exact List.mem_cons_of_mem _ m) id
      · rw [if_neg hk] at e1; cases e1
end
end Mini
/-! Mini, part Y: exceptions. -/
namespace Mini
open PySem L2

section
variable {Js J1 : SP} {G : Gs} {F F0 : Addr → Prop} {fp fp0 : Nat → List Addr} {H H0 : Hp} {ρ : Env} {σ : L2.St} {f : List Addr}
/-- a slot is forgotten by the language -/
theorem Aft.slot (a : Aft J1 G F0 fp0 H0 ρ σ F fp H f) {i : Nat} (u : Option V) (hj : Js.p (σ.set i u) F H) : Aft Js G F0 fp0 H0 (ρ.set i none) (σ.set i u) F (fpSet fp i []) H f where
  st := ⟨a.st.sub, a.st.keep, a.st.new, fun j b hb => a.st.newO j b (mem_fpSet_nil hb).2⟩
  sto := ⟨by simpa using a.sto.len, fun j q hq => by
      by_cases ej : j = i
      · subst ej; rw [getI_set_none] at hq; cases hq
      · rw [getI_set_ne ej] at hq
        obtain ⟨v, e, r⟩ := a.sto.sl j q hq
        exact ⟨v, by rw [List.getElem?_set_ne (Ne.symm ej)]; exact e, by rw [fpSet_ne ej]; exact r⟩, fun j => by
      by_cases ej : j = i
      · subst ej; rw [fpSet_same]; exact .nil
      · rw [fpSet_ne ej]; exact a.sto.nd j, fun j k b h1 h2 => a.sto.dj j k b (mem_fpSet_nil h1).2 (mem_fpSet_nil h2).2, fun j b hb => a.sto.out j b (mem_fpSet_nil hb).2, a.sto.fr, hj⟩
  tmp := ⟨a.tmp.nd, fun j b hb h => a.tmp.dj j b hb (mem_fpSet_nil h).2, a.tmp.out⟩
  src := a.src
theorem Kp.set {fx : List Nat} {i : Nat} {u : Option V} (h : i ∉ fx) : Kp fx σ (σ.set i u) := ⟨by simp, fun j hj => by
  have : j ≠ i := fun e => h (e ▸ hj)
  rw [List.getElem?_set_ne (Ne.symm this)]⟩
theorem st1_xd {o : Option HO} {xs : List (Str × V)} (h : st1 o = some (.xd xs)) : o = some (.xd xs) := by
  cases o with
  | none => cases h
  | some u =>
    cases u with
    | frz ob w => cases w <;> cases h
    | xd ys => exact h
    | _ => cases h
/-- the exception in hand -/
def Jx (G : Gs) (i : Nat) (a : Addr) (x : Xn) (d : Option Addr) : SP :=
  ⟨fun σ F H => σ[i]? = some (some (.ref a)) ∧ (x.fs = [] ∨ ∃ dd xs, d = some dd ∧ F dd ∧ H dd = some (.xd xs) ∧ Repf G F H x.fs xs), fun sub st h => ⟨h.1, h.2.imp id fun ⟨dd, xs, e, fd, hd, r⟩ => ⟨dd, xs, e, sub _ fd, st1_xd ((st _ fd).trans (by rw [hd]; rfl)), r.mono sub st⟩⟩⟩
theorem Jx.keep {i : Nat} {a : Addr} {x : Xn} {d : Option Addr} {fx : List Nat} (h : i ∈ fx) : JK (Jx G i a x d) fx := fun σ σ' F H k q => ⟨(k.2 i h).trans q.1, q.2⟩
end

section
variable {Js : SP} {X : Cx} {G : Gs} {W : WX} {c : Ctx} {σ : L2.St} {A : Adr}
/-- X(), X an own class without __init__ -/
theorem pmk_own0 {C : Addr} {bmB : List Value} {B newId initId : String} {x : Str} {p pos : Pos} (F : ExcBaseFacts B newId initId bmB) (q : PySem.W.excIn X.K C bmB newId = true) (gC : X.mg x = some (.ref C)) (kC : PySem.W.keepIn X.K (.ref C) = true)
    (r : Raises X (.ref C)) (hg : Gl X x) (hdb : (x == ("__debug__" : Str)) = false) : PMk X (.Call (.Name x p) [] [] pos) (fun _ H Q => Q (.ref C) none H) := by
  intro pins s σ H Q I h
  refine wpAny_Call_Name_kw (ld_glob I hg gC ?_ hdb)
  refine PySem.W.callWith_K0 I.kIn kC ?_
  obtain ⟨bm, N, nm, qn, bs, hdct, sn, sub, ab, col, dd, k0, k1, k2, k3, k5, mN, hC, hN, hni, T⟩ := exc_obj I.kIn q
  exact wpAny_call_exc_subT F T hC hN hni (fun h' e hm => mk_of I hm r h (I.hok.gone hm.new)) (Nat.zero_le _)
theorem bs_rse0 {k : String} {C : Addr} {bmB : List Value} {B newId initId : String} {x : Str} {p pos pos' : Pos} {fx : List Nat} (hC : G.ca k = C) (hc : X.calm = true) (tk : Takes X W) (F : ExcBaseFacts B newId initId bmB) (q : PySem.W.excIn X.K C bmB newId = true) (gC : X.mg x = some (.ref C))
    (kC : PySem.W.keepIn X.K (.ref C) = true) (r : Raises X (.ref C)) (hg : Gl X x) (hdb : (x == ("__debug__" : Str)) = false) : PS X (.Raise (some (.Call (.Name x p) [] [] pos)) none pos') (tS Js G W fx (ex c (.rse k []))) := by
  refine PS.weak (ps_raise hc tk (pmk_own0 F q gC kC r hg hdb)) fun D σ H ⟨F, ρ, fp, res, s, e, p⟩ => ?_
  simp only [ex, evs, M.bind, M.pure] at e
  by_cases hh : c.has (k ++ ".__init__") = true
  · rw [if_pos hh] at e; cases e
  · rw [if_neg hh] at e
    simp only [Option.some.injEq] at e
    subst e
    exact p F fp H σ (.ref C) none (.refl s) .refl ⟨by rw [hC], .inl ⟨rfl, rfl⟩⟩
/-- what an except clause answers -/
def ExmF (K : PySem.W.Frag) (G : Gs) (c : Ctx) (k : String) (cv : Value) : Prop := ∀ y, c.exc y = true → PySem.W.exmOne K (.ref (G.ca y)) cv = some (k == y || (c.sub y).contains k)
theorem bs_tri {i : Nat} {k : String} {n x : Str} {cv : Value} {body suite : List Stmt} {b₀ : Stmt} {np pos pos' : Pos} {b h : List S} (hs : X.stack = X.env :: X.outer) (hf : X.env.frame = some X.env.locals) (hN : X.N.Nodup) (hi : X.N[i]? = some n) (hln : X.env.kindOf n = some .local)
    (hnm : Names X x cv) (tk : Takes X W) (hJ : JK Js c.fx) (FE : ExmF X.K G c k cv)
    (hb : ∀ (W' : WX) (pn : List (Addr × Obj)) (xe : Value → Shared → Prop), Takes (X.tr pn xe) W' → PassesOwn (model X.prog X.w) X.A X.env xe → PSs (X.tr pn xe) body (tS Js G W' c.fx (exs c b)))
    (hsu : ∀ (a : Addr) (oe : Obj) (d : Option Addr) (pn : List (Addr × Obj)) (x : Xn), c.exc x.c = true → Zc (.ref (G.ca x.c)) d oe → (x.fs = [] → d = none) → (∃ vs, oe.data = .fields vs) →
      PSs (X.suite a ((a, oe) :: pn)) (b₀ :: suite) (tS (Jx G i a x d) G WN (i :: c.fx) (exs { c with fx := i :: c.fx, xn := some (i, x) } h))) :
    PS X (.Try body [.ExceptHandler (some (.Name x np)) (some n) (b₀ :: suite) pos'] [] [] pos) (tS Js G W c.fx (ex c (.tri b [k] (some i) h))) := by
  refine PS.weak (ps_try_as (tb := fun W' => tS Js G W' c.fx (exs c b)) (ts := fun a cls d D σ H => ∃ x : Xn, c.exc x.c = true ∧ cls = .ref (G.ca x.c) ∧ (x.fs = [] → d = none) ∧ tS (Jx G i a x d) G WN (i :: c.fx) (exs { c with fx := i :: c.fx, xn := some (i, x) } h) D σ H)
    hs hf hN hi hln hnm tk hb (fun a oe cls d pn hz hfl => ⟨fun pins s σ H D I ⟨x, h1, h2, h3, h4⟩ => by subst h2; exact (hsu a oe d pn x h1 hz h3 hfl).run pins s σ H D I h4⟩)) fun D σ H ⟨F, ρ, fp, res, s, e, p⟩ => ?_
  simp only [ex] at e
  cases e1 : exs c b ρ with
  | none => rw [e1] at e; cases e
  | some z =>
    obtain ⟨r, ρ1⟩ := z
    rw [e1] at e
    refine tS.of s e1 ?_
    cases r with
    | ok fl =>
      simp only [Option.some.injEq] at e
      subst e
      cases fl <;> exact p
    | ex x =>
      simp only at e
      by_cases hx : c.exc x.c = true
      · rw [if_pos hx] at e
        intro F1 fp1 H1 σ1 cls d a1 k1 xr
        have xr' := xr
        obtain ⟨rfl, xr2⟩ := xr
        refine ⟨_, FE x.c hx, fun hb a ha => ?_, fun hb => ?_⟩
        · have ht : [k].any (fun k => k == x.c || (c.sub x.c).contains k) = true := by simpa using hb
          rw [if_pos ht] at e
          by_cases hg : (c.fx.contains i || !(decide (i < ρ1.length))) = true
          · rw [if_pos hg] at e; cases e
          · rw [if_neg hg] at e
            simp only [Bool.or_eq_true, Bool.not_eq_true', decide_eq_false_iff_not, not_or, Decidable.not_not] at hg
            have hifx : i ∉ c.fx := fun h => hg.1 (by simpa using h)
            have hilt : i < σ1.length := by rw [← a1.sto.len]; exact hg.2
            cases e2 : exs { c with fx := i :: c.fx, xn := some (i, x) } h (ρ1.set i none) with
            | none => rw [e2] at e; cases e
            | some z =>
              obtain ⟨r2, ρ2⟩ := z
              rw [e2] at e
              cases r2 with
              | ex y => cases e
              | ok fl =>
                simp only [Option.some.injEq] at e
                subst e
                refine ⟨x, hx, rfl, fun z => ?_, ?_⟩
                · rcases xr2 with ⟨_, q⟩ | ⟨q, _⟩
                  · exact q
                  · exact absurd z q
                · have en : Aft (Jx G i a x d) G F fp H (ρ1.set i none) (σ1.set i (some (.ref a))) F1 (fpSet fp1 i []) H1 [] := a1.slot (some (.ref a)) ⟨List.getElem?_set_self hilt, by
                    rcases xr2 with ⟨q, _⟩ | ⟨_, q⟩
                    · exact .inl q
                    · exact .inr q⟩
                  refine tS.of en.sto e2 ?_
                  have kp : ∀ {σ2 : L2.St}, Kp (i :: c.fx) (σ1.set i (some (.ref a))) σ2 → Kp c.fx σ1 (σ2.set i none) := fun {σ2} k2 => ((Kp.set hifx).trans (k2.weak fun j h => List.mem_cons_of_mem _ h)).trans (Kp.set hifx)
                  have out : ∀ {F2 : Addr → Prop} {fp2 : Nat → List Addr} {H2 : Hp} {σ2 : L2.St} {f : List Addr}, Aft (Jx G i a x d) G F1 (fpSet fp1 i []) H1 ρ2 σ2 F2 fp2 H2 f → Kp (i :: c.fx) (σ1.set i (some (.ref a))) σ2 →
                      Aft Js G F fp H (ρ2.set i none) (σ2.set i none) F2 (fpSet fp2 i []) H2 f := fun {F2 fp2 H2 σ2 f} a2 k2 =>
                    (en.trans a2).slot none (hJ _ _ _ _ (kp k2) (Js.m a2.st.sub (a2.st.frSt1 en.sto) a1.sto.j))
                  cases fl with
                  | nx => exact fun F2 fp2 H2 σ2 a2 k2 => p F2 _ H2 _ (out a2 k2) (k1.trans (kp k2))
                  | bk => exact fun F2 fp2 H2 σ2 a2 k2 => p F2 _ H2 _ (out a2 k2) (k1.trans (kp k2))
                  | ct => exact fun F2 fp2 H2 σ2 a2 k2 => p F2 _ H2 _ (out a2 k2) (k1.trans (kp k2))
                  | rt r => exact fun F2 fp2 H2 σ2 v f a2 k2 sl => p F2 _ H2 _ v f (out a2 k2) (k1.trans (kp k2)) sl
        · have ht : ¬ [k].any (fun k => k == x.c || (c.sub x.c).contains k) = true := by simpa using hb
          rw [if_neg ht] at e
          simp only [Option.some.injEq] at e
          subst e
          exact p F1 fp1 H1 σ1 _ d a1 k1 xr'
      · rw [if_neg hx] at e; cases e
theorem bs_tri0 {k : String} {x : Str} {cv : Value} {body suite : List Stmt} {b₀ : Stmt} {np pos pos' : Pos} {b h : List S} (hs : X.stack = X.env :: X.outer) (hf : X.env.frame = some X.env.locals)
    (hnm : Names X x cv) (tk : Takes X W) (FE : ExmF X.K G c k cv)
    (hb : ∀ (W' : WX) (pn : List (Addr × Obj)) (xe : Value → Shared → Prop), Takes (X.tr pn xe) W' → PassesOwn (model X.prog X.w) X.A X.env xe → PSs (X.tr pn xe) body (tS Js G W' c.fx (exs c b)))
    (hsu : ∀ (a : Addr) (oe : Obj) (pn : List (Addr × Obj)), PSs (X.suite a ((a, oe) :: pn)) (b₀ :: suite) (tS Js G WN c.fx (exs c h))) :
    PS X (.Try body [.ExceptHandler (some (.Name x np)) none (b₀ :: suite) pos'] [] [] pos) (tS Js G W c.fx (ex c (.tri b [k] none h))) := by
  refine PS.weak (ps_try_only (tb := fun W' => tS Js G W' c.fx (exs c b)) (ts := fun a cls d => tS Js G WN c.fx (exs c h)) hs hf hnm tk hb (fun a oe cls d pn hz hfl => hsu a oe pn)) fun D σ H ⟨F, ρ, fp, res, s, e, p⟩ => ?_
  simp only [ex] at e
  cases e1 : exs c b ρ with
  | none => rw [e1] at e; cases e
  | some z =>
    obtain ⟨r, ρ1⟩ := z
    rw [e1] at e
    refine tS.of s e1 ?_
    cases r with
    | ok fl =>
      simp only [Option.some.injEq] at e
      subst e
      cases fl <;> exact p
    | ex x =>
      simp only at e
      by_cases hx : c.exc x.c = true
      · rw [if_pos hx] at e
        intro F1 fp1 H1 σ1 cls d a1 k1 xr
        have xr' := xr
        obtain ⟨rfl, xr2⟩ := xr
        refine ⟨_, FE x.c hx, fun hb a ha => ?_, fun hb => ?_⟩
        · have ht : [k].any (fun k => k == x.c || (c.sub x.c).contains k) = true := by simpa using hb
          rw [if_pos ht] at e
          simp only [M.quiet] at e
          cases e2 : exs c h ρ1 with
          | none => rw [e2] at e; cases e
          | some z =>
            obtain ⟨r2, ρ2⟩ := z
            rw [e2] at e
            cases r2 with
            | ex y => cases e
            | ok fl =>
              simp only [Option.some.injEq] at e
              subst e
              refine tS.of a1.sto e2 ?_
              cases fl with
              | nx => exact fun F2 fp2 H2 σ2 a2 k2 => p F2 _ H2 _ (a1.trans a2) (k1.trans k2)
              | bk => exact fun F2 fp2 H2 σ2 a2 k2 => p F2 _ H2 _ (a1.trans a2) (k1.trans k2)
              | ct => exact fun F2 fp2 H2 σ2 a2 k2 => p F2 _ H2 _ (a1.trans a2) (k1.trans k2)
              | rt r => exact fun F2 fp2 H2 σ2 v f a2 k2 sl => p F2 _ H2 _ v f (a1.trans a2) (k1.trans k2) sl
        · have ht : ¬ [k].any (fun k => k == x.c || (c.sub x.c).contains k) = true := by simpa using hb
          rw [if_neg ht] at e
          simp only [Option.some.injEq] at e
          subst e
          exact p F1 fp1 H1 σ1 _ d a1 k1 xr'
      · rw [if_neg hx] at e; cases e
/-- isinstance(e, k), e the exception in hand -/
theorem bw_xis {a : Addr} {oe : Obj} {d : Option Addr} {pn : List (Addr × Obj)} {x : Xn} {i : Nat} {k : String} {cv : V} {u : Value} {n : Str} {pk : Expr} {p p2 pos : Pos} (hxn : c.xn = some (i, x)) (EC : ExcC X.K (G.ca x.c)) (hz : Zc (.ref (G.ca x.c)) d oe) (hdn : x.fs = [] → d = none)
    (hfl : ∃ vs, oe.data = .fields vs) (FX : PySem.W.kitOne X.K (.ref (G.ca x.c)) u = some (k == x.c || (c.sub x.c).contains k)) (hN : X.N[i]? = some n) (hv : Vis X.env.scope n) (hd : (n == ("__debug__" : Str)) = false) (hcd : (n == ("__classdict__" : Str)) = false)
    (hk : PE (X.suite a ((a, oe) :: pn)) pk (tC cv)) (hcv : ∀ w, RelV cv w → w = u) (hg : Gl X "isinstance") (hm : X.mg "isinstance" = none)
    (he : starEach [.Name n p2, pk] X.env = (false, eval (.Name n p2) X.env) :: starEach [pk] X.env) (he2 : starEach [pk] X.env = (false, eval pk X.env) :: starEach [] X.env) (hpl : (backTo pos (starEach [pk] X.env)).any (·.1) = false) :
    PE (X.suite a ((a, oe) :: pn)) (.Call (.Name "isinstance" p) [.Name n p2, pk] [] pos) (tE (Jx G i a x d) G W (ev c (.xis i [k]))) := by
  by_cases hfs : x.fs = []
  · have hd0 := hdn hfs
    subst hd0
    refine PE.weak (pe_callB (X := X.suite a ((a, oe) :: pn)) (call_isE EC hz hfl) hg hm (by decide +kernel) (pa_cons (pe_var (X := X.suite a ((a, oe) :: pn)) hN hv hd hcd) (pa_cons hk pa_nil he2) he) (by decide) (by decide) he hpl) fun σ H Q ⟨F, ρ, fp, res, s, e, p'⟩ => ?_
    simp only [ev, hxn] at e
    rw [if_pos (by simp [hfs])] at e
    simp only [M.pure, Option.some.injEq] at e
    subst e
    refine ⟨.ref a, s.j.1, cv, u, _, rfl, hcv, FX, ?_⟩
    exact p' F fp H _ [] (.refl s) (by simp only [RlV, SlR, Rep]; exact ⟨trivial, by simp⟩)
  · refine ⟨fun pins s σ H Q I ⟨F, ρ, fp, res, st, e, p'⟩ => ?_⟩
    simp only [ev, hxn] at e
    rw [if_neg (by simp [hfs])] at e
    cases e
end
end Mini
/-! Mini, part Z: calls with defaults, static methods, new instances. -/
namespace Mini
open PySem L2

def dArgs (dd : List D) : List Arg := dd.map fun d => Arg.r (.d d)
theorem takeA_app {dd : List D} : ∀ {as : List Arg} {e : Env} {rs : List R} {e' : Env}, takeA as e = some (rs, e') → takeA (as ++ dArgs dd) e = some (rs ++ dd.map R.d, e') ∧ rs.length = as.length
  | [], e, rs, e', h => by
    simp only [takeA, Option.some.injEq, Prod.mk.injEq] at h
    obtain ⟨rfl, rfl⟩ := h
    refine ⟨?_, rfl⟩
    simp only [List.nil_append]
    induction dd with
    | nil => rfl
    | cons d dd ih =>
      show takeA (.r (.d d) :: dArgs dd) e = _
      simp only [takeA, ih]
      rfl
  | .r x :: as, e, rs, e', h => by
    simp only [takeA] at h
    cases q : takeA as e with
    | none => rw [q] at h; cases h
    | some p =>
      obtain ⟨r1, e1⟩ := p
      rw [q] at h
      simp only [Option.some.injEq, Prod.mk.injEq] at h
      obtain ⟨rfl, rfl⟩ := h
      obtain ⟨i1, i2⟩ := takeA_app (dd := dd) q
      simp only [List.cons_append, takeA, i1, List.length_cons, i2, and_self]
  | .p i fs :: as, e, rs, e', h => by
    simp only [takeA, List.cons_append] at h ⊢
    cases fs with
    | cons f fs => cases h
    | nil =>
      simp only at h ⊢
      cases q : getI e i with
      | none => rw [q] at h; cases h
      | some r =>
        rw [q] at h
        cases r with
        | d x =>
          simp only at h ⊢
          cases q1 : takeA as e with
          | none => rw [q1] at h; cases h
          | some p =>
            obtain ⟨r1, e1⟩ := p
            rw [q1] at h
            simp only [Option.some.injEq, Prod.mk.injEq] at h
            obtain ⟨rfl, rfl⟩ := h
            obtain ⟨i1, i2⟩ := takeA_app (dd := dd) q1
            simp only [i1, List.cons_append, List.length_cons, i2, and_self]
        | own x =>
          simp only at h ⊢
          cases q1 : takeA as (e.set i none) with
          | none => rw [q1] at h; cases h
          | some p =>
            obtain ⟨r1, e1⟩ := p
            rw [q1] at h
            simp only [Option.some.injEq, Prod.mk.injEq] at h
            obtain ⟨rfl, rfl⟩ := h
            obtain ⟨i1, i2⟩ := takeA_app (dd := dd) q1
            simp only [i1, List.cons_append, List.length_cons, i2, and_self]
        | obj k x =>
          simp only at h ⊢
          cases q1 : takeA as (e.set i none) with
          | none => rw [q1] at h; cases h
          | some p =>
            obtain ⟨r1, e1⟩ := p
            rw [q1] at h
            simp only [Option.some.injEq, Prod.mk.injEq] at h
            obtain ⟨rfl, rfl⟩ := h
            obtain ⟨i1, i2⟩ := takeA_app (dd := dd) q1
            simp only [i1, List.cons_append, List.length_cons, i2, and_self]
theorem giveA_dd : ∀ {dd : List D} {rs : List R} {os : List (Option R)} {e : Env}, giveA (dArgs dd) rs os e = some e
  | [], _, _, _ => rfl
  | d :: dd, rs, os, e => by
    show giveA (.r (.d d) :: dArgs dd) rs os e = _
    simp only [giveA]
    exact giveA_dd
theorem giveA_app {dd : List D} {ys : List R} : ∀ {as : List Arg} {rs : List R} {os : List (Option R)} {e : Env}, rs.length = as.length → giveA (as ++ dArgs dd) (rs ++ ys) os e = giveA as rs os e
  | [], rs, os, e, h => by
    simp only [List.nil_append, giveA_dd, giveA]
  | .r x :: as, rs, os, e, h => by
    cases rs with
    | nil => simp at h
    | cons r rs =>
      simp only [List.cons_append, giveA, List.tail_cons]
      exact giveA_app (by simpa using h)
  | .p i fs :: as, rs, os, e, h => by
    cases rs with
    | nil => simp at h
    | cons r rs =>
      simp only [List.cons_append, giveA]
      cases os with
      | nil => rfl
      | cons o os =>
        simp only
        have hl : rs.length = as.length := by simpa using h
        by_cases hd : isD r = true
        · simp only [if_pos hd]; exact giveA_app hl
        · simp only [if_neg hd]
          cases o with
          | none => rfl
          | some q => exact giveA_app hl
theorem callM_app {cf : String → List R → Option (Rs R × List (Option R))} {cn : List R → Option (Rs R × List (Option R))} {nm : String} {as : List Arg} {dd : List D} {ρ : Env} {res : Rs R × Env} {np : Nat} (hcn : ∀ rs, rs.length + dd.length = np → cf nm rs = cn (rs ++ dd.map R.d))
    (hl : as.length + dd.length = np) (e : callM cf nm as ρ = some res) : callM (fun _ => cn) nm (as ++ dArgs dd) ρ = some res := by
  unfold callM at e ⊢
  cases ht : takeA as ρ with
  | none => rw [ht] at e; cases e
  | some q =>
    obtain ⟨rs, ρ1⟩ := q
    rw [ht] at e
    obtain ⟨t1, t2⟩ := takeA_app (dd := dd) ht
    rw [t1]
    simp only at e ⊢
    rw [hcn rs (by rw [t2]; exact hl)] at e
    cases hc : cn (rs ++ dd.map R.d) with
    | none => rw [hc] at e; cases e
    | some q =>
      obtain ⟨r, outs⟩ := q
      rw [hc] at e
      simp only at e ⊢
      rw [giveA_app t2]
      exact e
section
variable {Js : SP} {G : Gs} {W : WX} {X : Cx} {A : Adr}
theorem rlAs_app {σ : L2.St} {ρ : Env} {F : Addr → Prop} {H : Hp} {dd : List D} {dvs : List V} (hr : Reps G F H dd dvs) : ∀ {as : List Arg} {vs : List V} {f : List Addr}, RlAs G σ as ρ vs F H f → RlAs G σ (as ++ dArgs dd) ρ (vs ++ dvs) F H f
  | [], vs, f, h => by
    obtain ⟨rfl, rfl⟩ := h
    simp only [List.nil_append]
    induction dd generalizing dvs with
    | nil => simp only [Reps] at hr; subst hr; exact ⟨rfl, rfl⟩
    | cons d dd ih =>
      simp only [Reps] at hr
      obtain ⟨v, q, rfl, r1, r2⟩ := hr
      exact ⟨v, q, [], [], rfl, rfl, by simp only [RlA, SlR]; exact ⟨trivial, r1⟩, ih r2⟩
  | a :: as, vs, f, h => by
    obtain ⟨v, ws, f1, f2, rfl, rfl, h1, h2⟩ := h
    exact ⟨v, ws ++ dvs, f1, f2, rfl, rfl, h1, rlAs_app hr h2⟩
/-- what is known of a def, called with m arguments -/
structure DefF (X : Cx) (G : Gs) (cf : List R → Option (Rs R × List (Option R))) (n m : Nat) (f : Addr) (fd : FuncData) (ps : List Str) (sp : Sp) (dvs : List V) : Prop where
  FO : FnOk X.prog X.w X.K X.mg X.base (L2.CX X.prog X.w) n f fd ps sp
  kp : PySem.W.keepIn X.K (.ref f) = true
  bind : ∃ ds, Binds X.K fd ps ds ∧ Vals dvs ds
  cn : ∃ cn np dd, sp = spN G cn np ∧ m + dd.length = np ∧ (∀ F H, Reps G F H dd dvs) ∧ ∀ rs, rs.length + dd.length = np → cf rs = cn (rs ++ dd.map R.d)
theorem call_okD {σ : L2.St} {F F0 : Addr → Prop} {fp fp0 : Nat → List Addr} {H H0 : Hp} {ρ ρ1 : Env} {f : List Addr} {as : List Arg} {vs : List V} {cf : String → List R → Option (Rs R × List (Option R))} {nm : String} {n m : Nat} {fa : Addr} {fd : FuncData} {ps : List Str} {sp : Sp} {dvs : List V} {res : Rs R × Env} {Q : VK}
    (DF : DefF X G (cf nm) n m fa fd ps sp dvs) (af : Aft Js G F0 fp0 H0 ρ σ F fp H f) (rl : RlAs G σ as ρ1 vs F H f) (e : callM cf nm as ρ = some res) (hm : as.length = m) (p : Post Js G W (RlV G) F0 fp0 H0 σ res Q) : sp (vs ++ dvs) H Q (WE W σ) := by
  obtain ⟨cn, np, dd, rfl, hnp, hrep, hcn⟩ := DF.cn
  have e2 := callM_app (cf := cf) (nm := nm) hcn (by rw [hm]; exact hnp) e
  exact call_ok (cf := fun _ => cn) (nm := nm) af (rlAs_app (hrep F H) rl) e2 (by simp only [List.length_append, dArgs, List.length_map]; omega) p
/-- f(e, ..), defaults behind -/
theorem bw_callD {c : Ctx} {nm : String} {es : List E} {n m : Nat} {f : Addr} {fd : FuncData} {ps : List Str} {sp : Sp} {dvs : List V} {x : Str} {p pos : Pos} {pe : Expr} {pes : List Expr}
    (tk : Takes X W) (DF : DefF X G (c.call nm) n m f fd ps sp dvs) (hr : Room n X.A) (hg : Gl X x) (hm : X.mg x = some (.ref f)) (hl : es.length = m) (ha : PA X (pe :: pes) (tM Js G W (RlAs G) (evs c es)))
    (hdb : (x == ("__debug__" : Str)) = false) (he : starEach (pe :: pes) X.env = (false, eval pe X.env) :: starEach pes X.env) (hpl : (backTo pos (starEach pes X.env)).any (·.1) = false) :
    PE X (.Call (.Name x p) (pe :: pes) [] pos) (tE Js G W (ev c (.call nm es))) := by
  obtain ⟨ds, hb, hd⟩ := DF.bind
  refine PE.weak (pe_callSD (E := WE W) DF.FO hr hg hm DF.kp hb hd (fun σ => passAt tk σ) ha hdb he hpl) fun σ H Q ⟨F, ρ, fp, res, s, e, p'⟩ => ?_
  simp only [ev] at e
  refine bindO s e p'.exc0 fun as ρ1 em e1 F1 fp1 H1 vs f1 af rl => ?_
  exact call_okD DF af rl e1 ((evs_len em).trans hl) p'
theorem pe_callSD0 {CX : CXT} {k : Nat} {f : Addr} {fd : FuncData} {ps : List Str} {sp : Sp} {dvs : List V} {ds : List Value} {E : L2.St → XK} {x : Str} {p pos : Pos} (FF : FnOk X.prog X.w X.K X.mg X.base CX k f fd ps sp) (hr : Room k X.A) (hg : Gl X x) (hm : X.mg x = some (.ref f))
    (hk : PySem.W.keepIn X.K (.ref f) = true) (hb : Binds X.K fd ps ds) (hd : Vals dvs ds) (hx : ∀ σ, PassesAt CX X σ (E σ)) (hdb : (x == ("__debug__" : Str)) = false) : PE X (.Call (.Name x p) [] [] pos) (tCallSD sp dvs E tNil) := by
  refine ⟨fun pins s σ H Q I h => wpAny_Call_Name_kw (ld_glob I hg hm ?_ hdb)⟩
  exact PySem.W.callWith_K0 I.kIn hk (run_fnSD (us := []) FF hr hb hd (hx σ) I .nil h)
theorem bw_callD0 {c : Ctx} {nm : String} {n : Nat} {f : Addr} {fd : FuncData} {ps : List Str} {sp : Sp} {dvs : List V} {x : Str} {p pos : Pos}
    (tk : Takes X W) (DF : DefF X G (c.call nm) n 0 f fd ps sp dvs) (hr : Room n X.A) (hg : Gl X x) (hm : X.mg x = some (.ref f)) (hdb : (x == ("__debug__" : Str)) = false) :
    PE X (.Call (.Name x p) [] [] pos) (tE Js G W (ev c (.call nm []))) := by
  obtain ⟨ds, hb, hd⟩ := DF.bind
  refine PE.weak (pe_callSD0 (E := WE W) DF.FO hr hg hm DF.kp hb hd (fun σ => passAt tk σ) hdb) fun σ H Q ⟨F, ρ, fp, res, s, e, p'⟩ => ?_
  simp only [ev, evs, M.pure_bind] at e
  exact call_okD (as := []) (vs := []) (f := []) (ρ1 := ρ) DF (.refl s) ⟨rfl, rfl⟩ e rfl p'

/-! ### C.m(e, ..), m a static method -/
structure StaF (K : PySem.W.Frag) (C : Addr) (m : Str) (f : Addr) : Prop where
  rd : PySem.W.readsIn K C (.type "type") = true
  ga : PySem.W.specialIn K (.ref C) "__getattribute__" = some (some (.builtin "type.__getattribute__"))
  at_ : ∃ q rest, PySem.W.findCls K (.ref C) (.type "type") m = some (.get (.builtin "staticmethod.__get__") (.ref q) .none (.ref C)) ∧ PySem.W.recIn K q "staticmethod" = some (.ref f :: rest)
theorem pe_sta {CX : CXT} {k : Nat} {f C : Addr} {fd : FuncData} {ps : List Str} {sp : Sp} {dvs : List V} {ds : List Value} {E : L2.St → XK} {o e : Expr} {es : List Expr} {m : Str} {t : TA} {pos apos : Pos} {pl : Sem Bool} (he : PE X o (tC (.ref C))) (S : StaF X.K C m f)
    (FF : FnOk X.prog X.w X.K X.mg X.base CX k f fd ps sp) (hr : Room k X.A) (hk : PySem.W.keepIn X.K (.ref f) = true) (hb : Binds X.K fd ps ds) (hd : Vals dvs ds) (hx : ∀ σ, PassesAt CX X σ (E σ)) (ha : PA X (e :: es) t)
    (hst : starEach (e :: es) X.env = (false, eval e X.env) :: starEach es X.env) (hpl : (backTo pos (starEach es X.env)).any (·.1) = false)
    (ht : eval (.Call (.Attribute o m apos) (e :: es) [] pos) X.env = (do
      let ov ← eval o X.env
      standAt apos.atName
      let (f, first) ← holding [ov] (getMethod ov m pl)
      callWith pos f first (backTo pos (starEach (e :: es) X.env)) (backToKw pos (keywordEach [] X.env)))) :
    PE X (.Call (.Attribute o m apos) (e :: es) [] pos) (tCallSD sp dvs E t) := by
  obtain ⟨q, rest, at_, rc⟩ := S.at_
  refine ⟨fun pins s σ H Q I h => PySem.W.methodCall_KW (pl := pl) (thn (he.run pins s σ H (fun x H1 => x = .ref C ∧ H1 = H) I ⟨rfl, rfl⟩) fun u s1 ⟨x, H1, I1, rx, ex, eH⟩ => ?_) ht⟩
  subst ex eH
  obtain rfl : u = Value.ref C := rx
  refine PySem.W.method_cls I1.kIn S.ga (PySem.W.cls_bind I1.kIn S.rd at_ (wpAny_call (PySem.W.sm_get (s := { s1 with toks := s1.toks + 1 }) I1.kIn rc (PySem.W.handed_on rfl ?_))))
  have I2 : Inv X pins σ H1 { s1 with toks := s1.toks + 1 } := I1.tok _
  refine PySem.W.callWith_K (first := []) (h₀ := X.base) I.ok.mod.kin hk (thn (ha.run pos pins _ σ H1 _ I2 h) fun us s2 ⟨vs, H2, I3, r, q⟩ => ⟨I3.kIn, ?_⟩) hst hpl
  exact run_fnSD FF hr hb hd (hx σ) I3 r q
theorem bw_sta {c : Ctx} {nm : String} {es : List E} {n k : Nat} {f C : Addr} {fd : FuncData} {ps : List Str} {sp : Sp} {dvs : List V} {po pe : Expr} {pes : List Expr} {m : Str} {pos apos : Pos} {pl : Sem Bool}
    (tk : Takes X W) (DF : DefF X G (c.call nm) n k f fd ps sp dvs) (hr : Room n X.A) (ho : PE X po (tC (.ref C))) (S : StaF X.K C m f) (hl : es.length = k) (ha : PA X (pe :: pes) (tM Js G W (RlAs G) (evs c es)))
    (he : starEach (pe :: pes) X.env = (false, eval pe X.env) :: starEach pes X.env) (hpl : (backTo pos (starEach pes X.env)).any (·.1) = false)
    (ht : eval (.Call (.Attribute po m apos) (pe :: pes) [] pos) X.env = (do
      let ov ← eval po X.env
      standAt apos.atName
      let (f, first) ← holding [ov] (getMethod ov m pl)
      callWith pos f first (backTo pos (starEach (pe :: pes) X.env)) (backToKw pos (keywordEach [] X.env)))) :
    PE X (.Call (.Attribute po m apos) (pe :: pes) [] pos) (tE Js G W (ev c (.call nm es))) := by
  obtain ⟨ds, hb, hd⟩ := DF.bind
  refine PE.weak (pe_sta (E := WE W) ho S DF.FO hr DF.kp hb hd (fun σ => passAt tk σ) ha he hpl ht) fun σ H Q ⟨F, ρ, fp, res, s, e, p'⟩ => ?_
  simp only [ev] at e
  refine bindO s e p'.exc0 fun as ρ1 em e1 F1 fp1 H1 vs f1 af rl => ?_
  exact call_okD DF af rl e1 ((evs_len em).trans hl) p'
end

/-! ### C(e, ..) -/
section
variable {Js J1 : SP} {G : Gs} {F F0 : Addr → Prop} {fp fp0 : Nat → List Addr} {H H0 : Hp} {ρ ρ' : Env} {σ : L2.St} {f : List Addr} {A : Adr}
theorem Aft.none0 (a : Aft Js G F0 fp0 H0 ρ σ F fp H f) {b : Addr} (hb : H b = none) : (∃ i, b ∈ fp0 i) ∨ H0 b = none := by
  by_cases hx : ∃ i, b ∈ fp0 i
  · exact .inl hx
  · cases e : H0 b with
    | none => exact .inr rfl
    | some o => (rw [a.st.keep b o e fun i hi => hx ⟨i, hi⟩] at hb; cases hb)
/-- one slot more: a new instance -/
theorem Aft.push (a : Aft Js G F0 fp0 H0 ρ σ F fp H f) {x dx : Addr} {k : String} (hx : H x = none) (hdx : H dx = none) (hne : dx ≠ x) :
    Aft JT G F0 fp0 H0 (ρ ++ [some (.obj k [])]) (σ ++ [some (.ref x)]) F (fpSet fp ρ.length [x]) (upd (upd H dx (.own x)) x (.ins (G.ca k) dx [])) f := by
  have keep : ∀ b, H b ≠ none → upd (upd H dx (.own x)) x (.ins (G.ca k) dx []) b = H b := fun b hb => by
    rw [upd_ne (fun e => hb (by rw [e]; exact hx)), upd_ne (fun e => hb (by rw [e]; exact hdx))]
  have hF : ∀ b, F b → H b ≠ none := a.sto.fr
  have memF : ∀ i b, b ∈ fpSet fp ρ.length [x] i → (i = ρ.length ∧ b = x) ∨ (i ≠ ρ.length ∧ b ∈ fp i) := fun i b hb => by
    by_cases e : i = ρ.length
    · subst e; rw [fpSet_same] at hb; exact .inl ⟨rfl, by simpa using hb⟩
    · rw [fpSet_ne e] at hb; exact .inr ⟨e, hb⟩
  have nx : ∀ i, x ∉ fp i := fun i h => (a.sto.out i x h).2.1 hx
  refine ⟨⟨a.st.sub, fun b o h n => ?_, a.st.new, fun i b hb => ?_⟩, ⟨by simp [a.sto.len], fun i r hi => ?_, fun i => ?_, fun i j b h1 h2 => ?_, fun i b hb => ?_, fun b hb => by rw [keep b (hF b hb)]; exact hF b hb, trivial⟩, ⟨a.tmp.nd, fun i b hb h => ?_, fun b hb => ⟨(a.tmp.out b hb).1, (a.tmp.out b hb).2.of (keep b (a.tmp.out b hb).2.1)⟩⟩, a.src⟩
  · have e := a.st.keep b o h n
    rw [keep b (by rw [e]; simp)]
    exact e
  · rcases memF i b hb with ⟨_, rfl⟩ | ⟨_, h⟩
    · exact a.none0 hx
    · exact a.st.newO i b h
  · unfold getI at hi
    by_cases hl : i < ρ.length
    · rw [List.getElem?_append_left hl] at hi
      obtain ⟨v, e, q⟩ := a.sto.sl i r (by unfold getI; exact hi)
      refine ⟨v, by rw [List.getElem?_append_left (by rw [← a.sto.len]; exact hl)]; exact e, ?_⟩
      rw [fpSet_ne (by omega)]
      exact q.mono (fun _ h => h) (fun b hb => by rw [keep b (hF b hb)]) fun b hb => keep b (a.sto.out i b hb).2.1
    · by_cases he : i = ρ.length
      · subst he
        simp only [List.getElem?_concat_length, Option.some.injEq] at hi
        subst hi
        refine ⟨.ref x, by rw [a.sto.len]; simp, ?_⟩
        rw [fpSet_same]
        simp only [SlR, SlRf]
        exact ⟨x, dx, [], [], rfl, upd_same, ⟨rfl, rfl⟩, rfl⟩
      · rw [List.getElem?_eq_none (by simp; omega)] at hi
        cases hi
  · by_cases e : i = ρ.length
    · subst e; rw [fpSet_same]; simp
    · rw [fpSet_ne e]; exact a.sto.nd i
  · rcases memF i b h1 with ⟨e1, m1⟩ | ⟨e1, m1⟩ <;> rcases memF j b h2 with ⟨e2, m2⟩ | ⟨e2, m2⟩
    · rw [e1, e2]
    · subst m1; exact absurd m2 (nx j)
    · subst m2; exact absurd m1 (nx i)
    · exact a.sto.dj i j b m1 m2
  · rcases memF i b hb with ⟨_, rfl⟩ | ⟨_, h⟩
    · exact ⟨fun z => hF b z hx, by rw [upd_same]; simp, fun xs => by rw [upd_same]; simp⟩
    · exact ⟨(a.sto.out i b h).1, (a.sto.out i b h).2.of (keep b (a.sto.out i b h).2.1)⟩
  · rcases memF i b h with ⟨_, rfl⟩ | ⟨_, h⟩
    · exact (a.tmp.out b hb).2.1 hx
    · exact a.tmp.dj i b hb h
/-- .. and it is gone again -/
theorem Aft.popS (s : Sto Js G F0 ρ σ H0 fp0) {u : Option V} (a : Aft J1 G F0 fp0 H0 ρ' (σ ++ [u]) F fp H f) :
    Aft Js G F0 fp0 H0 (ρ'.take σ.length) σ F (fun i => if i < σ.length then fp i else []) H (fp σ.length) := by
  have mem : ∀ i b, b ∈ (if i < σ.length then fp i else []) → i < σ.length ∧ b ∈ fp i := fun i b h => by
    by_cases e : i < σ.length
    · rw [if_pos e] at h; exact ⟨e, h⟩
    · rw [if_neg e] at h; simp at h
  have hl : ρ'.length = σ.length + 1 := by simpa using a.sto.len
  refine ⟨⟨a.st.sub, a.st.keep, a.st.new, fun i b hb => a.st.newO i b (mem i b hb).2⟩, ⟨by simp [hl], fun i r hi => ?_, fun i => ?_, fun i j b h1 h2 => a.sto.dj i j b (mem i b h1).2 (mem j b h2).2, fun i b hb => a.sto.out i b (mem i b hb).2, a.sto.fr, Js.m a.st.sub (a.st.frSt1 s) s.j⟩,
    ⟨a.sto.nd _, fun i b hb h => ?_, fun b hb => a.sto.out _ b hb⟩, fun b hb => a.st.newO _ b hb⟩
  · unfold getI at hi
    by_cases hlt : i < σ.length
    · rw [List.getElem?_take_of_lt hlt] at hi
      obtain ⟨v, e, q⟩ := a.sto.sl i r (by unfold getI; exact hi)
      rw [List.getElem?_append_left hlt] at e
      exact ⟨v, e, by simp only [if_pos hlt]; exact q⟩
    · rw [List.getElem?_eq_none (by simp [hl]; omega)] at hi
      cases hi
  · show (if i < σ.length then fp i else []).Nodup
    split
    · exact a.sto.nd i
    · exact .nil
  · obtain ⟨h1, h2⟩ := mem i b h
    have := a.sto.dj _ _ b hb h2
    omega
end

section
variable {Js : SP} {G : Gs} {W : WX} {X : Cx} {A : Adr}
theorem run_makeS {k : Nat} {f C : Addr} {fd : FuncData} {ps : List Str} {sp : Sp} {dvs : List V} {ds : List Value} {pins : List (Addr × Obj)} {σ : L2.St} {H : Hp} {s : Shared} {Q : VK} {E : XK} {us : List Value} {vs : List V} (M : Mk X.K C f) (FF : FnOk X.prog X.w X.K X.mg X.base (L2.CX X.prog X.w) k f fd ps sp)
    (hr : Room (k + 1) X.A) (hb : Binds X.K fd ps ds) (hd : Vals dvs ds) (hx : ∀ H1 s1, Inv X pins σ H1 s1 → ∀ e s', L2.CX X.prog X.w X.stack H1 s1 E e s' → X.xe e s') (I : Inv X pins σ H s) (r : Vals vs us)
    (h : ∀ x dx, H x = none → H dx = none → dx ≠ x → sp (.ref x :: (vs ++ dvs)) (upd (upd H dx (.own x)) x (.ins C dx [])) (fun v H2 => v = .non ∧ Q (.ref x) H2) E) : wpAny (model X.prog X.w) X.A (call (.ref C) us) (EP X pins σ Q) X.xe s := by
  let x := s.heap.objs.size + 1
  have fresh := h x s.heap.objs.size (I.hok.fresh (Nat.le_succ _)) (I.hok.fresh (Nat.le_refl _)) (Nat.ne_of_lt (Nat.lt_succ_self _))
  have J := Inv.made (C := C) I
  have rv : Vals (V.ref x :: (vs ++ dvs)) (Value.ref x :: (us ++ ds)) := .cons rfl (r.append hd)
  have len : (Value.ref x :: us ++ ds).length = ps.length := (rv.length.symm.trans (FF.len _ _ _ _ fresh))
  refine wpAny_call (make_map (f := f) I.kIn M.makes M.init (beq_iff_eq.mp M.fn) (codeAny_mono (FF.run _ X.stack _ _ ⟨.ref x :: us, []⟩ (.ref x :: (us ++ ds)) _ _ E (hr.make C us []) (J.env0.make C us []) (hb _ (.ref x :: us) J.kIn len) rv fresh) fun out s' post => ?_))
  cases out with
  | error e => exact hx _ _ J e s' post
  | ok fl =>
    cases fl with
    | ret u => obtain ⟨v, H', I3, r3, rfl, q3⟩ := J.after post; exact ⟨r3, ⟨V.ref x, H', I3, rfl, q3⟩⟩
    | next => exact False.elim post
    | brk => exact False.elim post
    | cont => exact False.elim post
theorem pe_makeS {k : Nat} {f C : Addr} {fd : FuncData} {ps : List Str} {sp : Sp} {dvs : List V} {ds : List Value} {E : L2.St → XK} {x : Str} {e : Expr} {es : List Expr} {t : TA} {p pos : Pos} (M : Mk X.K C f) (FF : FnOk X.prog X.w X.K X.mg X.base (L2.CX X.prog X.w) k f fd ps sp)
    (hr : Room (k + 1) X.A) (hg : Gl X x) (hm : X.mg x = some (.ref C)) (hb : Binds X.K fd ps ds) (hd : Vals dvs ds) (hx : ∀ σ, PassesAt (L2.CX X.prog X.w) X σ (E σ)) (ha : PA X (e :: es) t) (hdb : (x == ("__debug__" : Str)) = false)
    (he : starEach (e :: es) X.env = (false, eval e X.env) :: starEach es X.env) (hpl : (backTo pos (starEach es X.env)).any (·.1) = false) : PE X (.Call (.Name x p) (e :: es) [] pos) (fun σ H Q => t σ H fun vs H1 => ∀ x dx, H1 x = none → H1 dx = none → dx ≠ x →
      sp (.ref x :: (vs ++ dvs)) (upd (upd H1 dx (.own x)) x (.ins C dx [])) (fun v H2 => v = .non ∧ Q (.ref x) H2) (E σ)) := by
  refine ⟨fun pins s σ H Q I h => wpAny_Call_Name_kw (ld_glob I hg hm ?_ hdb)⟩
  refine PySem.W.callWith_K (h₀ := X.base) I.ok.mod.kin M.kp (thn (ha.run pos pins s σ H _ I h) fun us s1 ⟨vs, H1, I1, r, q⟩ => ⟨I1.kIn, ?_⟩) he hpl
  exact run_makeS M FF hr hb hd (fun H1 s1 J e s' c => hx σ pins H1 s1 e s' J c) I1 r q
theorem bw_make {c : Ctx} {k : String} {imm : Bool} {es : List E} {n m : Nat} {f C : Addr} {fd : FuncData} {ps : List Str} {sp : Sp} {dvs : List V} {x : Str} {p pos : Pos} {pe : Expr} {pes : List Expr}
    (hC : G.ca k = C) (tk : Takes X W) (DF : DefF X G (c.call1 (k ++ ".__init__")) n (m + 1) f fd ps sp dvs) (M : Mk X.K C f) (hr : Room (n + 1) X.A) (hg : Gl X x) (hm : X.mg x = some (.ref C)) (hl : es.length = m) (ha : PA X (pe :: pes) (tM Js G W (RlAs G) (evs c es)))
    (hdb : (x == ("__debug__" : Str)) = false) (he : starEach (pe :: pes) X.env = (false, eval pe X.env) :: starEach pes X.env) (hpl : (backTo pos (starEach pes X.env)).any (·.1) = false) :
    PE X (.Call (.Name x p) (pe :: pes) [] pos) (tE Js G W (ev c (.make k imm es))) := by
  subst hC
  obtain ⟨ds, hb, hd⟩ := DF.bind
  refine PE.weak (pe_makeS (E := WE W) M DF.FO hr hg hm hb hd (fun σ => passAt tk σ) ha hdb he hpl) fun σ H Q ⟨F, ρ, fp, res, s, e, p'⟩ => ?_
  simp only [ev] at e
  refine bindO s e p'.exc0 fun as ρ1 em e1 F1 fp1 H1 vs f1 af rl => ?_
  intro x dx hx hdx hne
  cases hc : callM c.call1 (k ++ ".__init__") (.p ρ1.length [] :: as) (ρ1 ++ [some (.obj k [])]) with
  | none => rw [hc] at e1; cases e1
  | some z =>
    obtain ⟨r2, ρ2⟩ := z
    rw [hc] at e1
    have hlen : ρ1.length = σ.length := af.sto.len
    have pu := af.push (k := k) hx hdx hne
    have rl' : RlAs G (σ ++ [some (.ref x)]) (.p ρ1.length [] :: as) ρ1 (.ref x :: vs) F1 (upd (upd H1 dx (.own x)) x (.ins (G.ca k) dx [])) f1 := by
      refine ⟨.ref x, vs, [], f1, rfl, rfl, ⟨rfl, rfl, by rw [hlen]; simp⟩, ?_⟩
      have keep : ∀ b, H1 b ≠ none → upd (upd H1 dx (.own x)) x (.ins (G.ca k) dx []) b = H1 b := fun b hb => by
        rw [upd_ne (fun e => hb (by rw [e]; exact hx)), upd_ne (fun e => hb (by rw [e]; exact hdx))]
      have go : ∀ {as : List Arg} {vs : List V} {f : List Addr}, (∀ b, b ∈ f → H1 b ≠ none) → RlAs G σ as ρ1 vs F1 H1 f → RlAs G (σ ++ [some (.ref x)]) as ρ1 vs F1 (upd (upd H1 dx (.own x)) x (.ins (G.ca k) dx [])) f := by
        intro as
        induction as with
        | nil => intro vs f _ h; exact h
        | cons a as ih =>
          intro vs f hf h
          obtain ⟨v, ws, g1, g2, rfl, rfl, h1, h2⟩ := h
          refine ⟨v, ws, g1, g2, rfl, rfl, ?_, ih (fun b hb => hf b (List.mem_append_right _ hb)) h2⟩
          cases a with
          | r y => exact SlR.mono (fun _ h => h) (fun b hb => by rw [keep b (af.sto.fr b hb)]) (fun b hb => keep b (hf b (List.mem_append_left _ hb))) (show SlR G F1 H1 y v g1 from h1)
          | p i fs => exact ⟨h1.1, h1.2.1, by rw [List.getElem?_append_left (List.getElem?_eq_some_iff.mp h1.2.2).1]; exact h1.2.2⟩
      exact go (fun b hb => (af.tmp.out b hb).2.1) rl
    refine call_okD (W := fun cls d _ H => W cls d σ H) (Js := JT) (σ := σ ++ [some (.ref x)]) DF pu rl' hc (by simp [evs_len em, hl]) ?_
    cases r2 with
    | ex y =>
      simp only [Option.some.injEq] at e1
      subst e1
      intro F2 fp2 H2 cls d a2 xr
      have := (a2.popS s).drop
      rw [hlen] at p'
      exact p' F2 _ H2 cls d this xr
    | ok r2 =>
      intro F2 fp2 H2 v g a2 sl
      have hnon : r2 = .d .non := by
        cases r2 with
        | d d => cases d <;> first | rfl | cases e1
        | own d => cases e1
        | obj k d => cases e1
      subst hnon
      simp only [RlV, SlR, Rep] at sl
      obtain ⟨rfl, rfl⟩ := sl
      refine ⟨rfl, ?_⟩
      simp only at e1
      cases hg2 : getI ρ2 ρ1.length with
      | none => rw [hg2] at e1; cases e1
      | some q =>
        rw [hg2] at e1
        cases q with
        | d y => cases e1
        | own y => cases e1
        | obj k2 fs =>
          simp only [Option.some.injEq] at e1
          subst e1
          obtain ⟨v2, ev2, sl2⟩ := a2.sto.sl _ _ hg2
          rw [hlen] at ev2
          simp only [List.getElem?_concat_length, Option.some.injEq] at ev2
          subst ev2
          have a3 := a2.popS s
          rw [hlen] at p' sl2
          cases imm with
          | false => exact p' F2 _ H2 (.ref x) _ a3 sl2
          | true => exact p' _ _ H2 (.ref x) [] a3.frz (by simp only [RlV, SlR, if_true]; exact ⟨trivial, a3.frzRep sl2⟩)
end
end Mini
/-! Mini, part ZA: dicts walked by their keys. -/
namespace Mini
open PySem L2

theorem PS.or {X : Cx} {e : Stmt} {t t' : TS} (h : PS X e t) (h' : PS X e t') : PS X e (fun D σ H => t D σ H ∨ t' D σ H) :=
  ⟨fun pins s σ H D I q => q.elim (h.run pins s σ H D I) (h'.run pins s σ H D I)⟩
section
variable {Js : SP} {G : Gs} {F F' : Addr → Prop} {fp fp' : Nat → List Addr} {H H' : Hp} {ρ ρ' : Env} {σ σ' : L2.St} {f : List Addr} {d : Addr} {od : Obj} {u : HO}
/-- a dict -/
def DicO (u : HO) : Prop := (∃ ks, u = .dK ks) ∨ ∃ ks, u = .dT ks
theorem DicO.st {od : Obj} (h : DicO u) : st1 (some (.frz od u)) = st1 (some u) := by
  rcases h with ⟨ks, rfl⟩ | ⟨ks, rfl⟩ <;> rfl
theorem DicO.mut (h : DicO u) : Mut (some u) := by
  rcases h with ⟨ks, rfl⟩ | ⟨ks, rfl⟩ <;> trivial
theorem Sto.lockS (s : Sto Js G F ρ σ H fp) (fd : F d) (hd : H d = some u) (hu : DicO u) : Sto Js G F ρ σ (upd H d (.frz od u)) fp := by
  have nf : ∀ i b, b ∈ fp i → b ≠ d := fun i b h e => by subst e; exact (s.out i b h).1 fd
  have st : ∀ b, F b → st1 (upd H d (.frz od u) b) = st1 (H b) := fun b _ => by
    by_cases e : b = d
    · subst e; rw [upd_same, hd, hu.st]
    · rw [upd_ne e]
  refine ⟨s.len, fun i r h => ?_, s.nd, s.dj, fun i b h => ⟨(s.out i b h).1, (s.out i b h).2.of (upd_ne (nf i b h))⟩, fun b h => ?_, Js.m (fun _ h => h) st s.j⟩
  · obtain ⟨v, e, q⟩ := s.sl i r h
    exact ⟨v, e, q.mono (fun _ h => h) st fun b hb => upd_ne (nf i b hb)⟩
  · by_cases e : b = d
    · subst e; rw [upd_same]; simp
    · rw [upd_ne e]; exact s.fr b h
theorem Aft.unlockS (s : Sto Js G F ρ σ H fp) (fd : F d) (hd : H d = some u) (hu : DicO u) (a : Aft Js G F fp (upd H d (.frz od u)) ρ' σ' F' fp' H' f) :
    H' d = some (.frz od u) ∧ Aft Js G F fp H ρ' σ' F' fp' (upd H' d u) f ∧ (∀ b, F' b → st1 (upd H' d u b) = st1 (H' b)) ∧ ∀ b, b ∈ f → upd H' d u b = H' b := by
  have hd' : H' d = some (.frz od u) := a.st.keep d _ upd_same fun i h => (s.out i d h).1 fd
  have fd' : F' d := a.st.sub d fd
  have nf : ∀ i b, b ∈ fp' i → b ≠ d := fun i b h e => by subst e; exact (a.sto.out i b h).1 fd'
  have nt : ∀ b, b ∈ f → b ≠ d := fun b h e => by subst e; exact (a.tmp.out b h).1 fd'
  have st : ∀ b, F' b → st1 (upd H' d u b) = st1 (H' b) := fun b _ => by
    by_cases e : b = d
    · subst e; rw [upd_same, hd', hu.st]
    · rw [upd_ne e]
  have none_ : ∀ b, upd H d (.frz od u) b = none → H b = none := fun b h => by
    by_cases e : b = d
    · subst e; rw [upd_same] at h; cases h
    · rw [upd_ne e] at h; exact h
  refine ⟨hd', ⟨⟨a.st.sub, fun b o h n => ?_, fun b h => ?_, fun i b h => (a.st.newO i b h).imp id (none_ b)⟩, ⟨a.sto.len, fun i r h => ?_, a.sto.nd, a.sto.dj, fun i b h => ⟨(a.sto.out i b h).1, (a.sto.out i b h).2.of (upd_ne (nf i b h))⟩, fun b h => ?_, Js.m (fun _ h => h) st a.sto.j⟩,
    ⟨a.tmp.nd, a.tmp.dj, fun b h => ⟨(a.tmp.out b h).1, (a.tmp.out b h).2.of (upd_ne (nt b h))⟩⟩, fun b h => (a.src b h).imp id (none_ b)⟩, st, fun b h => upd_ne (nt b h)⟩
  · by_cases e : b = d
    · subst e; rw [upd_same]; rw [hd] at h; exact h
    · rw [upd_ne e]; exact a.st.keep b o (by rw [upd_ne e]; exact h) n
  · by_cases e : b = d
    · subst e; exact .inl fd
    · rcases a.st.new b h with h | h | h | ⟨xs, h⟩
      · exact .inl h
      · exact .inr (.inl h)
      · exact .inr (.inr (.inl (none_ b h)))
      · exact .inr (.inr (.inr ⟨xs, by rw [upd_ne e] at h; exact h⟩))
  · obtain ⟨v, e, q⟩ := a.sto.sl i r h
    exact ⟨v, e, q.mono (fun _ h => h) st fun b hb => upd_ne (nf i b hb)⟩
  · by_cases e : b = d
    · subst e; rw [upd_same]; simp
    · rw [upd_ne e]; exact a.sto.fr b h

theorem repK_get : ∀ {kvs : List (D × D)} {ks : List (Key × V)} {i : Nat} {x : D}, RepK G F H kvs ks → (kvs.map (·.1))[i]? = some x → ∃ k v, ks[i]? = some (k, v) ∧ keyR x k
  | [], _, _, _, _, e => by simp at e
  | p :: r, _, 0, x, h, e => by
    simp only [RepK] at h
    obtain ⟨k, v, q, rfl, hp, _⟩ := h
    obtain ⟨a, b⟩ := p
    simp at e
    subst e
    simp only [RepKp] at hp
    exact ⟨k, v, rfl, hp.1⟩
  | p :: r, _, i + 1, x, h, e => by
    simp only [RepK] at h
    obtain ⟨k, v, q, rfl, _, hr⟩ := h
    obtain ⟨k', v', h1, h2⟩ := repK_get (i := i) hr (by simpa using e)
    exact ⟨k', v', by simpa using h1, h2⟩
theorem repT_get : ∀ {kvs : List (D × D)} {ks : List (List Key × V)} {i : Nat} {x : D}, RepT G F H kvs ks → (kvs.map (·.1))[i]? = some x → ∃ k v, ks[i]? = some (k, v) ∧ keyT x k
  | [], _, _, _, _, e => by simp at e
  | p :: r, _, 0, x, h, e => by
    simp only [RepT] at h
    obtain ⟨k, v, q, rfl, hp, _⟩ := h
    obtain ⟨a, b⟩ := p
    simp at e
    subst e
    simp only [RepTp] at hp
    exact ⟨k, v, rfl, hp.1⟩
  | p :: r, _, i + 1, x, h, e => by
    simp only [RepT] at h
    obtain ⟨k, v, q, rfl, _, hr⟩ := h
    obtain ⟨k', v', h1, h2⟩ := repT_get (i := i) hr (by simpa using e)
    exact ⟨k', v', by simpa using h1, h2⟩
theorem rep_key {x : D} {k : Key} (h : keyR x k) : Rep G F H x (kV k) := by
  cases x <;> cases k <;> first | exact h.elim | (simp only [keyR] at h; subst h; simp only [Rep]; rfl)
theorem reps_keys : ∀ {ds : List D} {ks : List Key}, keysR ds ks → Reps G F H ds (ks.map kV)
  | [], _, h => by simp only [keysR] at h; subst h; exact .nil
  | d :: ds, _, h => by
    simp only [keysR] at h
    obtain ⟨k, q, rfl, h1, h2⟩ := h
    exact .cons (rep_key h1) (reps_keys h2)
theorem ylds_keys {a : Addr} {o : Obj} {kvs : List (D × D)} {ks : List (Key × V)} (hH : H a = some (.frz o (.dK ks))) (r : RepK G F H kvs ks) : Ylds G (Itk a o ks) F H [a] (kvs.map (·.1)) := by
  intro F2 H2 sub st ex al i
  have h2 : H2 a = some (.frz o (.dK ks)) := (ex a (by simp)).trans hH
  have hl := lenK r
  refine ⟨fun h => ⟨h2, by rw [List.length_map] at h; omega⟩, fun x hx => ?_⟩
  obtain ⟨k, v, e, hk⟩ := repK_get r hx
  refine ⟨⟨h2, (List.getElem?_eq_some_iff.mp e).1⟩, fun y H3 ⟨e3, k', v', e4, e5⟩ => ?_⟩
  subst e3
  rw [e] at e4
  simp only [Option.some.injEq, Prod.mk.injEq] at e4
  obtain ⟨rfl, rfl⟩ := e4
  subst e5
  exact ⟨F2, .refl al, rep_key hk⟩
theorem ylds_keysT {a : Addr} {o : Obj} {kvs : List (D × D)} {ks : List (List Key × V)} (hH : H a = some (.frz o (.dT ks))) (r : RepT G F H kvs ks) : Ylds G (Itkt a o ks) F H [a] (kvs.map (·.1)) := by
  intro F2 H2 sub st ex al i
  have h2 : H2 a = some (.frz o (.dT ks)) := (ex a (by simp)).trans hH
  have hl := lenT r
  refine ⟨fun h => ⟨h2, by rw [List.length_map] at h; omega⟩, fun x hx => ?_⟩
  obtain ⟨k, v, e, hk⟩ := repT_get r hx
  refine ⟨⟨h2, (List.getElem?_eq_some_iff.mp e).1⟩, fun y H3 ⟨e3, k', v', q, e4, e5, e6⟩ => ?_⟩
  subst e3
  rw [e] at e4
  simp only [Option.some.injEq, Prod.mk.injEq] at e4
  obtain ⟨rfl, rfl⟩ := e4
  subst e5
  refine ⟨fun b => F2 b ∨ b = q, ⟨fun _ h => .inl h, fun _ _ h => h, fun b h => h.elim .inl fun e => .inr (.inr ⟨k.map kV, by subst e; exact e6⟩), fun _ h => by simp at h, .nil, fun b h => h.elim (al b) fun e => by rw [e, e6]; simp⟩, ?_⟩
  cases x <;> first | exact hk.elim | skip
  simp only [keyT] at hk
  simp only [Rep]
  exact ⟨q, _, rfl, .inl ⟨.inr rfl, e6⟩, reps_keys hk⟩
end

section
variable {Js : SP} {G : Gs} {W : WX} {X : Cx} {c : Ctx} {σ : L2.St} {A : Adr}
theorem walk_dk {i : Nat} {ρ : Env} : walkS (.dkeys i) (ev c (.dkeys i)) ρ = M.bind (shareL i []) (fun x => M.bind (M.opt (itemsK x.frz)) fun l => M.pure (l, none)) ρ := rfl
/-- what is shared stands in its slot -/
theorem share_run {i : Nat} {ρ : Env} {r : R} (hr : getI ρ i = some r) : shareL i [] ρ = some (.ok (.d r.frz), ρ.set i (some (.d r.frz))) := by
  unfold shareL getL putL
  have hset : ρ.set i (some r) = ρ := by
    unfold getI at hr
    cases e : ρ[i]? with
    | none => rw [e] at hr; cases hr
    | some o =>
      rw [e] at hr
      cases o with
      | none => cases hr
      | some q =>
        simp only [Option.some.injEq] at hr
        subst hr
        obtain ⟨hi, h2⟩ := List.getElem?_eq_some_iff.mp e
        rw [← h2]; exact List.set_getElem_self hi
  cases r with
  | d x => simp only [hr, getP, R.frz]; rw [hset]
  | own x => simp only [hr, getP, putP]
  | obj k fs => simp only [hr, getP, putP]
theorem share_again {i : Nat} {ρ : Env} {r : R} (hr : getI ρ i = some r) : shareL i [] (ρ.set i (some (.d r.frz))) = some (.ok (.d r.frz), ρ.set i (some (.d r.frz))) := by
  have h := share_run (r := .d r.frz) (getI_set_same (getI_lt hr) : getI (ρ.set i (some (.d r.frz))) i = _)
  simpa [R.frz] using h
theorem walk_none {i : Nat} {ρ : Env} (h : getI ρ i = none) : walkS (.dkeys i) (ev c (.dkeys i)) ρ = none := by
  rw [walk_dk]
  simp [M.bind, shareL, getL, h]
theorem walk_same {i : Nat} {ρ : Env} {r : R} (hr : getI ρ i = some r) : walkS (.dkeys i) (ev c (.dkeys i)) (ρ.set i (some (.d r.frz))) = walkS (.dkeys i) (ev c (.dkeys i)) ρ := by
  rw [walk_dk, walk_dk]
  simp only [M.bind, share_run hr, share_again hr]
/-- a locked dict is walked -/
theorem walkD_of {i : Nat} {a : Addr} {o : Obj} {H : Hp} (hv : σ[i]? = some (some (.ref a))) (hH : (∃ ks, H a = some (.frz o (.dK ks))) ∨ ∃ ks, H a = some (.frz o (.dT ks))) : ∀ R, tW Js G W (walkS (.dkeys i) (ev c (.dkeys i))) σ H R → iAny X.K (tVar i) σ H R := by
  intro R ⟨F, ρ, fp, res, s, e, p⟩
  cases hr : getI ρ i with
  | none => rw [walk_none hr] at e; cases e
  | some r =>
    obtain ⟨v, e2, rep, af⟩ := s.share hr
    rw [hv] at e2
    cases e2
    rw [walk_dk] at e
    simp only [M.bind, share_run hr, M.opt] at e
    cases hi : itemsK (Mini.R.d r.frz).frz with
    | none => rw [hi] at e; cases e
    | some l =>
      rw [hi] at e
      simp only [M.pure, Option.some.injEq] at e
      subst e
      simp only [Mini.R.frz] at hi
      cases hd : r.frz <;> rw [hd] at hi <;> simp only [itemsK, Option.some.injEq] at hi <;> first | (cases hi; done) | skip
      rename_i kvs
      subst hi
      rw [hd] at rep
      simp only [Rep] at rep
      obtain ⟨a', ea, fa, rep⟩ := rep
      cases ea
      refine ⟨.ref a, hv, .inr (.inr (.inr ⟨a, o, rfl, ?_⟩))⟩
      rcases rep with ⟨ks, k1, k2⟩ | ⟨ks, k1, k2⟩
      · rcases hH with ⟨ks', hH⟩ | ⟨ks', hH⟩
        · rw [hH] at k1
          simp only [st1, Option.some.injEq, HO.dK.injEq] at k1
          subst k1
          exact .inl ⟨_, hH, p _ _ H _ [] af ⟨⟨[a], fun b hb => .inr (by simp at hb; subst hb; exact fa), ylds_keys hH k2⟩, fun i x h => by cases h⟩⟩
        · rw [hH] at k1; simp [st1] at k1
      · rcases hH with ⟨ks', hH⟩ | ⟨ks', hH⟩
        · rw [hH] at k1; simp [st1] at k1
        · rw [hH] at k1
          simp only [st1, Option.some.injEq, HO.dT.injEq] at k1
          subst k1
          exact .inr ⟨_, hH, p _ _ H _ [] af ⟨⟨[a], fun b hb => .inr (by simp at hb; subst hb; exact fa), ylds_keysT hH k2⟩, fun i x h => by cases h⟩⟩
/-- the dict that is walked: where it lies, locked or not -/
theorem dict_at {i : Nat} {ρ : Env} {F : Addr → Prop} {fp : Nat → List Addr} {H : Hp} {l : List D × Option (Nat × D)} {ρ' : Env} (s : Sto Js G F ρ σ H fp) (e : walkS (.dkeys i) (ev c (.dkeys i)) ρ = some (.ok l, ρ')) :
    ∃ r a, getI ρ i = some r ∧ σ[i]? = some (some (.ref a)) ∧ (F a ∨ a ∈ fp i) ∧ Aft Js G F fp H (ρ.set i (some (.d r.frz))) σ (fun b => F b ∨ b ∈ fp i) (fpSet fp i []) H [] ∧ ((∃ u, DicO u ∧ H a = some u) ∨ ∃ o u, DicO u ∧ H a = some (.frz o u)) := by
  cases hr : getI ρ i with
  | none => rw [walk_none hr] at e; cases e
  | some r =>
    obtain ⟨v, e2, rep, af⟩ := s.share hr
    rw [walk_dk] at e
    simp only [M.bind, share_run hr, M.opt] at e
    cases hi : itemsK (R.d r.frz).frz with
    | none => rw [hi] at e; cases e
    | some l =>
      simp only [R.frz] at hi
      cases hd : r.frz <;> rw [hd] at hi <;> simp only [itemsK] at hi <;> first | (cases hi; done) | skip
      rename_i kvs
      rw [hd] at rep
      simp only [Rep] at rep
      obtain ⟨a, rfl, fa, rep⟩ := rep
      refine ⟨r, a, rfl, e2, fa, af, ?_⟩
      rcases rep with ⟨ks, k1, _⟩ | ⟨ks, k1, _⟩
      · rcases st1_dK.mp k1 with h | ⟨o, h⟩
        · exact .inl ⟨_, .inl ⟨ks, rfl⟩, h⟩
        · exact .inr ⟨o, _, .inl ⟨ks, rfl⟩, h⟩
      · rcases st1_dT.mp k1 with h | ⟨o, h⟩
        · exact .inl ⟨_, .inr ⟨ks, rfl⟩, h⟩
        · exact .inr ⟨o, _, .inr ⟨ks, rfl⟩, h⟩
theorem DicO.fr {a : Addr} {o : Obj} {u : HO} {H : Hp} (hu : DicO u) (h : H a = some (.frz o u)) : (∃ ks, H a = some (.frz o (.dK ks))) ∨ ∃ ks, H a = some (.frz o (.dT ks)) := by
  rcases hu with ⟨ks, rfl⟩ | ⟨ks, rfl⟩
  · exact .inl ⟨ks, h⟩
  · exact .inr ⟨ks, h⟩
theorem bs_forD {ptg : Expr} {x : Str} {pb : List Stmt} {pos pos' : Pos} {t : T} {i : Nat} {b : List S} (hp : PassesOwn (model X.prog X.w) X.A X.env X.xe) (hc : X.calm = true) (hN : X.N[i]? = some x) (hv : Vis X.env.scope x) (hd : (x == ("__debug__" : Str)) = false) (hcd : (x == ("__classdict__" : Str)) = false)
    (hg : PG X ptg (tG Js G c t)) (hb : PSs X pb (tS Js G WN c.fx (exs c b))) (hs : ∀ y, foldedSetIterable (.Name x pos') X.env y = pure y) : PS X (.For ptg (.Name x pos') pb [] pos) (tS Js G W c.fx (ex c (.for_ t (.dkeys i) b))) := by
  refine PS.weak (PS.or (ps_for hp hc (pi_any (pe_var hN hv hd hcd)) hg hb hs) (ps_lock (ps_for hp hc (pi_any (pe_var hN hv hd hcd)) hg hb hs))) fun D σ0 H0 ⟨F0, ρ0, fp0, res, s0, e, p⟩ => ?_
  have e' : M.quiet (walkM (walkS (.dkeys i) (ev c (.dkeys i))) (forF (fun d => bindT (fixC c (.dkeys i)) t (.d d)) (exs (fixC c (.dkeys i)) b))) ρ0 = some res := by
    have q : ex c (.for_ t (.dkeys i) b) = quietIf true (walkM (walkS (.dkeys i) (ev c (.dkeys i))) (forF (fun d => bindT (fixC c (.dkeys i)) t (.d d)) (exs (fixC c (.dkeys i)) b))) := by
      simp only [ex]; rfl
    rw [q] at e
    exact e
  clear e
  have e := e'
  simp only [M.quiet] at e
  cases ew : walkM (walkS (.dkeys i) (ev c (.dkeys i))) (forF (fun d => bindT (fixC c (.dkeys i)) t (.d d)) (exs (fixC c (.dkeys i)) b)) ρ0 with
  | none => rw [ew] at e; cases e
  | some z =>
    obtain ⟨rz, ρe⟩ := z
    rw [ew] at e
    cases rz with
    | ex y => cases e
    | ok fl =>
      simp only [Option.some.injEq] at e
      subst e
      have ew0 := ew
      simp only [walkM, M.bind] at ew0
      cases ea : walkS (.dkeys i) (ev c (.dkeys i)) ρ0 with
      | none => rw [ea] at ew0; cases ew0
      | some z =>
        obtain ⟨rw_, ρw⟩ := z
        rw [ea] at ew0
        cases rw_ with
        | ex y => cases ew0
        | ok lw =>
          obtain ⟨r, a, hr, hv0, fa, af, hdd⟩ := dict_at s0 ea
          have e1 : walkM (walkS (.dkeys i) (ev c (.dkeys i))) (forF (fun d => bindT (fixC c (.dkeys i)) t (.d d)) (exs (fixC c (.dkeys i)) b)) (ρ0.set i (some (.d r.frz))) = some (.ok fl, ρe) := by
            rw [← ew]
            simp only [walkM, M.bind, walk_same hr]
          have htok : ∀ ρ l j y ρ', walkS (.dkeys i) (ev c (.dkeys i)) ρ = some (.ok (l, some (j, y)), ρ') → j ∈ (fixC c (.dkeys i)).fx := fun ρ l j y ρ' h => by
            rw [walk_dk] at h
            simp only [M.bind] at h
            cases h1 : shareL i [] ρ with
            | none => rw [h1] at h; cases h
            | some z =>
              obtain ⟨z1, z2⟩ := z
              rw [h1] at h
              cases z1 with
              | ex y => cases h
              | ok q =>
                simp only [M.opt] at h
                cases h2 : itemsK q.frz with
                | none => rw [h2] at h; cases h
                | some l => rw [h2] at h; simp [M.pure] at h
          have pr := p.rest af .refl
          rcases hdd with ⟨u, hu, hu0⟩ | ⟨o, u, hu, hu0⟩
          · refine .inr ⟨a, u, hu0, hu.mut, fun od => ?_⟩
            have s1 := af.sto.lockS (od := od) fa hu0 hu
            refine for_of (W := WN) s1 e1 ?_ htok (walkD_of hv0 (hu.fr (o := od) upd_same))
            cases fl with
            | nx => exact fun F' fp' H' σ' a' k => ⟨(a'.unlockS af.sto fa hu0 hu).1, pr F' fp' _ σ' (a'.unlockS af.sto fa hu0 hu).2.1 k⟩
            | bk => exact fun F' fp' H' σ' a' k => ⟨(a'.unlockS af.sto fa hu0 hu).1, pr F' fp' _ σ' (a'.unlockS af.sto fa hu0 hu).2.1 k⟩
            | ct => exact fun F' fp' H' σ' a' k => ⟨(a'.unlockS af.sto fa hu0 hu).1, pr F' fp' _ σ' (a'.unlockS af.sto fa hu0 hu).2.1 k⟩
            | rt q => exact fun F' fp' H' σ' v f a' k sl => ⟨(a'.unlockS af.sto fa hu0 hu).1, pr F' fp' _ σ' v f (a'.unlockS af.sto fa hu0 hu).2.1 k (sl.mono (fun _ h => h) (a'.unlockS af.sto fa hu0 hu).2.2.1 (a'.unlockS af.sto fa hu0 hu).2.2.2)⟩
          · refine .inl (for_of (W := WN) af.sto e1 ?_ htok (walkD_of hv0 (hu.fr hu0)))
            cases fl <;> exact pr
theorem walk_ok (c : Ctx) {i : Nat} {ρ ρ1 : Env} {rz : Rs (List D × Option (Nat × D))} (h : walkS (.dkeys i) (shareL i []) ρ = some (rz, ρ1)) : ∃ l, rz = .ok (l, none) := by
  cases hr : getI ρ i with
  | none =>
    have := walk_none (c := c) hr
    have h' : walkS (.dkeys i) (ev c (.dkeys i)) ρ = some (rz, ρ1) := h
    rw [this] at h'; cases h'
  | some r =>
    have h' : M.bind (shareL i []) (fun x => M.bind (M.opt (itemsK x.frz)) fun l => M.pure (l, none)) ρ = some (rz, ρ1) := h
    simp only [M.bind, share_run hr, M.opt] at h'
    cases h2 : itemsK (R.d r.frz).frz with
    | none => rw [h2] at h'; cases h'
    | some l =>
      rw [h2] at h'
      simp only [M.pure, Option.some.injEq, Prod.mk.injEq] at h'
      exact ⟨l, h'.1.symm⟩
theorem lc_no {i : Nat} {elt : E} {t : T} {cs : List E} {ρ ρ' : Env} {x : Xn} (h : ev c (.lc elt t (.dkeys i) cs) ρ = some (.ex x, ρ')) : False := by
  simp only [ev, M.bind, walkM] at h
  cases h1 : walkS (.dkeys i) (shareL i []) ρ with
  | none => rw [h1] at h; cases h
  | some z =>
    obtain ⟨z1, ρ1⟩ := z
    obtain ⟨l, rfl⟩ := walk_ok c h1
    rw [h1] at h
    simp only [keepM] at h
    cases h2 : lcF (fun d e => bindT c t (R.d d) (maskE (varsT t) e)) (evc c cs) (M.bind (ev c elt) fun x => M.pure [x.frz]) l ρ1 with
    | none => rw [h2] at h; cases h
    | some q =>
      obtain ⟨r, ρ2⟩ := q
      rw [h2] at h
      simp only [unlockL, M.opt] at h
      split at h <;> cases h
theorem bw_lcD {pelt ptg : Expr} {x : Str} {pifs : List Expr} {scope : Scope} {own : List (Str × Nat)} {pos pos' : Pos} {elt : E} {t : T} {cs : List E} {i : Nat} (hc : X.calm = true) (hN : X.N.Nodup) (hnd : (varsT t).Nodup) (hNx : X.N[i]? = some x) (hvx : Vis X.env.scope x) (hd : (x == ("__debug__" : Str)) = false) (hcd : (x == ("__classdict__" : Str)) = false)
    (ok : BlkOk X.N X.env.scope scope own)
    (hg : ∀ (s : Shared) (H : Hp) (C : Addr) (cl : List (Str × Addr)) (fp : List Addr), PG (X.blk s H scope (compEnvC scope cl C X.env) fp) ptg (tG JT G c t)) (ht : ∀ (s : Shared) (H : Hp) (C : Addr) (cl : List (Str × Addr)) (fp : List Addr), PTs (X.blk s H scope (compEnvC scope cl C X.env) fp) pifs (tT JT G WN (evc c cs)))
    (he : ∀ (s : Shared) (H : Hp) (C : Addr) (cl : List (Str × Addr)) (fp : List Addr), PE (X.blk s H scope (compEnvC scope cl C X.env) fp) pelt (tE JT G WN (ev c elt))) (hs : ∀ y, foldedSetIterable (.Name x pos') X.env y = pure y) (hv : own.map (·.2) = varsT t) :
    PE X (.ListComp pelt [⟨ptg, .Name x pos', pifs, 0⟩] scope pos) (tE JT G W (ev c (.lc elt t (.dkeys i) cs))) := by
  have base := pe_lc (pos := pos) hc hN (pi_any (pe_var (pos := pos') hNx hvx hd hcd)) ok hg ht he hs
  refine PE.weak (PE.or base (pe_lock base)) fun σ0 H0 Q ⟨F0, ρ0, fp0, res, s0, e, p⟩ => ?_
  rw [hv]
  obtain ⟨rz, ρe⟩ := res
  cases rz with
  | ex y => exact (lc_no e).elim
  | ok rr =>
    have e0 := e
    simp only [ev, walkM, M.bind] at e0
    cases ea : walkS (.dkeys i) (ev c (.dkeys i)) ρ0 with
    | none =>
      have ea' : walkS (.dkeys i) (shareL i []) ρ0 = none := ea
      rw [ea'] at e0; cases e0
    | some z =>
      obtain ⟨rw_, ρw⟩ := z
      have ea' : walkS (.dkeys i) (shareL i []) ρ0 = some (rw_, ρw) := ea
      rw [ea'] at e0
      cases rw_ with
      | ex y => cases e0
      | ok lw =>
        obtain ⟨r, a, hr, hv0, fa, af, hdd⟩ := dict_at s0 ea
        have e1 : ev c (.lc elt t (.dkeys i) cs) (ρ0.set i (some (.d r.frz))) = some (.ok rr, ρe) := by
          rw [← e]
          have ws : walkS (.dkeys i) (shareL i []) (ρ0.set i (some (.d r.frz))) = walkS (.dkeys i) (shareL i []) ρ0 := walk_same (c := c) hr
          simp only [ev, walkM, M.bind, ws]
        have pr : Post JT G W (RlV G) (fun b => F0 b ∨ b ∈ fp0 i) (fpSet fp0 i []) H0 σ0 (.ok rr, ρe) Q := p.rest af
        rcases hdd with ⟨u, hu, hu0⟩ | ⟨o, u, hu, hu0⟩
        · refine .inr ⟨a, u, hu0, hu.mut, fun od => ?_⟩
          have s1 := af.sto.lockS (od := od) fa hu0 hu
          refine lc_of (W := W) hnd s1 e1 (fun F' fp' H' v f a' sl => ?_) (walkD_of hv0 (hu.fr (o := od) upd_same))
          obtain ⟨q1, q2, q3, q4⟩ := a'.unlockS af.sto fa hu0 hu
          exact ⟨q1, pr F' fp' _ v f q2 (SlR.mono (fun _ h => h) q3 q4 sl)⟩
        · exact .inl (lc_of (W := W) hnd af.sto e1 pr (walkD_of hv0 (hu.fr hu0)))
end
end Mini
/-! Mini, part ZB: comprehensions of two clauses. -/
namespace Mini
open PySem L2

section
variable {Js J1 : SP} {G : Gs} {F F0 F1 F2 F' : Addr → Prop} {fp fp0 fp1 fp2 fp' : Nat → List Addr} {H H0 H1 H2 H' : Hp} {ρ ρ1 ρ2 : Env} {σ σ1 σ2 : L2.St} {f f1 f2 : List Addr} {D b : Addr} {is js : List Nat}
/-- one place more -/
def fpAdd (fp : Nat → List Addr) (D : Addr) : Nat → List Addr := fun j => if j = 0 then D :: fp j else fp j
theorem mem_add {j : Nat} (h : b ∈ fpAdd fp D j) : b = D ∨ b ∈ fp j := by
  unfold fpAdd at h
  split at h
  · rcases List.mem_cons.mp h with h | h
    · exact .inl h
    · exact .inr h
  · exact .inr h
theorem add_self : D ∈ fpAdd fp D 0 := by simp [fpAdd]
theorem add_old {j : Nat} (h : b ∈ fp j) : b ∈ fpAdd fp D j := by
  unfold fpAdd
  split
  · exact List.mem_cons_of_mem _ h
  · exact h
theorem Step.transD (a : Step F fp H F1 fp1 H1) (c : Step F1 (fpAdd fp1 D) H1 F2 fp2 H2) (srcD : (∃ k, D ∈ fp k) ∨ H D = none) : Step F fp H F2 fp2 H2 where
  sub := fun x h => c.sub x (a.sub x h)
  keep := fun x o h n => c.keep x o (a.keep x o h n) fun i hi => by
    rcases mem_add hi with e | hi
    · subst e
      rcases srcD with ⟨k, q⟩ | q
      · exact n k q
      · rw [h] at q; cases q
    · rcases a.newO i x hi with ⟨j, hj⟩ | z
      · exact n j hj
      · rw [h] at z; cases z
  new := fun x h => by
    have fin : (H1 x = none ∨ ∃ xs, H1 x = some (.tup xs)) → (F x ∨ (∃ i, x ∈ fp i) ∨ H x = none ∨ ∃ xs, H x = some (.tup xs)) := fun z => by
      by_cases hx : ∃ i, x ∈ fp i
      · exact .inr (.inl hx)
      · cases e : H x with
        | none => exact .inr (.inr (.inl rfl))
        | some o =>
          rw [a.keep x o e fun i hi => hx ⟨i, hi⟩] at z
          rcases z with z | ⟨xs, z⟩
          · cases z
          · exact .inr (.inr (.inr ⟨xs, z⟩))
    rcases c.new x h with h | ⟨i, h⟩ | h
    · exact a.new x h
    · rcases mem_add h with e | h
      · subst e; exact srcD.elim (fun q => .inr (.inl q)) fun q => .inr (.inr (.inl q))
      · exact (a.newO i x h).elim (fun q => .inr (.inl q)) fun q => .inr (.inr (.inl q))
    · exact fin h
  newO := fun i x h => by
    rcases c.newO i x h with ⟨j, h⟩ | h
    · rcases mem_add h with e | h
      · subst e; exact srcD
      · exact a.newO j x h
    · by_cases hx : ∃ i, x ∈ fp i
      · exact .inl hx
      · cases e : H x with
        | none => exact .inr rfl
        | some o => (rw [a.keep x o e fun i hi => hx ⟨i, hi⟩] at h; cases h)
theorem Aft.transD (a : Aft J1 G F fp H ρ1 σ1 F1 fp1 H1 f1) (c : Aft Js G F1 (fpAdd fp1 D) H1 ρ2 σ2 F2 fp2 H2 f2) (srcD : (∃ k, D ∈ fp k) ∨ H D = none) : Aft Js G F fp H ρ2 σ2 F2 fp2 H2 f2 where
  st := a.st.transD c.st srcD
  sto := c.sto
  tmp := c.tmp
  src := fun x h => by
    rcases c.src x h with ⟨i, h⟩ | h
    · rcases mem_add h with e | h
      · subst e; exact srcD
      · exact a.st.newO i x h
    · exact a.none0 h
theorem Aft.add (a : Aft Js G F fp H ρ σ F1 fp1 H1 f) : Aft Js G F (fpAdd fp D) H ρ σ F1 fp1 H1 f where
  st := ⟨a.st.sub, fun x o h n => a.st.keep x o h fun i hi => n i (add_old hi), fun x h => (a.st.new x h).imp id fun z => z.imp (fun ⟨i, z⟩ => ⟨i, add_old z⟩) id, fun i x h => (a.st.newO i x h).imp (fun ⟨j, z⟩ => ⟨j, add_old z⟩) id⟩
  sto := a.sto
  tmp := a.tmp
  src := fun x h => (a.src x h).imp (fun ⟨j, z⟩ => ⟨j, add_old z⟩) id
theorem Step.outsideD (st : Step F (fpAdd fp D) H F' fp' H') (h0 : b ≠ D) (h1 : ¬ F b) (h2 : Ow H b) (h3 : ∀ k, b ∉ fp k) : H' b = H b ∧ ¬ F' b ∧ ∀ k, b ∉ fp' k :=
  st.outside h1 h2 fun k hk => (mem_add hk).elim h0 (h3 k)
theorem maskE_at : ∀ {is : List Nat} {e : Env} {j : Nat}, (maskE is e)[j]? = if j ∈ is then (if j < e.length then some none else none) else e[j]?
  | [], e, j => by simp [maskE]
  | i :: is, e, j => by
    show (maskE is (e.set i none))[j]? = _
    rw [maskE_at (is := is)]
    by_cases hj : j ∈ is
    · simp [hj]
    · rw [if_neg hj]
      by_cases ej : j = i
      · subst ej
        by_cases hl : j < e.length
        · rw [List.getElem?_set_self hl]; simp [hl]
        · rw [List.getElem?_eq_none (by simpa using hl)]; simp [hl]
      · rw [List.getElem?_set_ne (Ne.symm ej)]; simp [hj, ej]
theorem maskE_mask (h : ∀ i, i ∈ js → i ∈ is) : maskE is (maskE js ρ) = maskE is ρ := by
  apply List.ext_getElem?
  intro j
  rw [maskE_at, maskE_at, maskE_len, maskE_at]
  by_cases hj : j ∈ is
  · simp [hj]
  · have hq : j ∉ js := fun q => hj (h j q)
    simp [hj, hq]
theorem wipe_mask (h : ∀ i, i ∈ js → i ∈ is) : wipe (wipe σ js) is = wipe σ is :=
  wipe_eq (by rw [wipe_length]) fun i hi => wipe_ne fun q => hi (h i q)
/-- where a list that is made lies -/
structure At (F : Addr → Prop) (fp : Nat → List Addr) (H : Hp) (D : Addr) (acc : List V) : Prop where
  at_ : H D = some (.lst acc)
  nF : ¬ F D
  nfp : ∀ k, D ∉ fp k
theorem At.ow {acc : List V} (h : At F fp H D acc) : Ow H D := ⟨by rw [h.at_]; simp, fun xs => by rw [h.at_]; simp⟩
theorem At.step {acc : List V} (h : At F fp H D acc) (st : Step F fp H F' fp' H') : At F' fp' H' D acc := by
  obtain ⟨e1, e2, e3⟩ := st.outside h.nF h.ow h.nfp
  exact ⟨e1.trans h.at_, e2, e3⟩
end

section
variable {G : Gs} {W : WX} {X : Cx}
/-- the turns of a comprehension's clause, whatever a turn does -/
theorem lc_loop {c : Ctx} {t : T} {cs : List E} {melt : M (List D)} {is : List Nat} {σ : L2.St} {F0 F1 : Addr → Prop} {fp0 fp1 : Nat → List Addr} {H0 H1 : Hp} {ρ1 ρe : Env} {f g : List Addr} {l ds0 total : List D} {J : It} {DD : Addr} {acc0 : List V}
    {R : L2.St → Hp → (Hp → Prop) → Prop} {Nx : Hp → Prop} (his : ∀ i, i ∈ varsT t → i ∈ is) (a1 : Aft JT G F0 fp0 H0 ρ1 σ F1 fp1 H1 f) (hgf : ∀ b, b ∈ g → b ∈ f ∨ F1 b) (yl : Ylds G J F1 H1 g l) (hD : At F1 fp1 H1 DD acc0) (nf : DD ∉ f)
    (srcD : (∃ k, DD ∈ fp0 k) ∨ H0 DD = none) (rps : Reps G F1 H1 ds0 acc0) (er : lcF (fun d e => bindT c t (.d d) (maskE is e)) (evc c cs) melt l ρ1 = some (total, ρe)) (hz : ds0.length + total.length ≤ sizeMax)
    (hR : ∀ {F5 : Addr → Prop} {ρb : Env} {fp5 : Nat → List Addr} {H5 : Hp} {σ4 : L2.St} {xs : List D} {ρd : Env} {acc : List V} {ds : List D} {N : Hp → Prop}, Sto JT G F5 ρb σ4 H5 fp5 → At F5 fp5 H5 DD acc → Reps G F5 H5 ds acc → melt ρb = some (.ok xs, ρd) → ds.length + xs.length ≤ sizeMax →
      (∀ F6 fp6 H6 acc', Aft JT G F5 (fpAdd fp5 DD) H5 (maskE is ρd) (wipe σ4 is) F6 fp6 H6 [] → At F6 fp6 H6 DD acc' → Reps G F6 H6 (ds ++ xs) acc' → N H6) → R σ4 H5 N)
    (hEnd : ∀ (F : Addr → Prop) (ρ : Env) (fp : Nat → List Addr) (H : Hp) (acc : List V), Aft JT G F0 fp0 H0 (maskE is ρe) (wipe σ is) F fp H [] → At F fp H DD acc → Reps G F H (ds0 ++ total) acc → (∀ b, F1 b → F b) → (∀ b, F1 b → st1 (H b) = st1 (H1 b)) →
      (∀ b, (b ∈ f ∨ b ∈ g ∨ ∃ j, j ∈ is ∧ b ∈ fp1 j) → H b = H1 b) → (∀ b, (b ∈ f ∨ ∃ j, j ∈ is ∧ b ∈ fp1 j) → ¬ F b ∧ ∀ k, b ∉ fp k) → Nx H) :
    ∃ W : Nat → Nat → Hp → Prop, (∃ m, W 0 m H1) ∧ ∀ i m H, W i m H → (J.stop i H ∧ Nx H) ∨ (J.go i H ∧ ∃ N : Hp → Prop, (∀ H', N H' → ∃ m', m' < m ∧ W (i + 1) m' H') ∧ ∀ x H', J.yld i H x H' →
      tG JT G c t x (wipe σ is) H' fun σ2 H2 => wipe σ2 is = wipe σ is ∧ tT JT G WN (evc c cs) σ2 H2 fun b H3 => if b = true then R σ2 H3 N else N H3) := by
  have neD : ∀ b, (b ∈ f ∨ b ∈ g ∨ ∃ j, j ∈ is ∧ b ∈ fp1 j) → b ≠ DD := fun b h e => by
    subst e
    rcases h with h | h | ⟨j, _, h⟩
    · exact nf h
    · exact (hgf b h).elim nf hD.nF
    · exact hD.nfp j h
  have owH : ∀ b, (b ∈ f ∨ ∃ j, j ∈ is ∧ b ∈ fp1 j) → Ow H1 b := fun b h => by
    rcases h with h | ⟨j, _, h⟩
    · exact (a1.tmp.out b h).2
    · exact (a1.sto.out j b h).2
  refine ⟨fun i m H => m = l.length - i ∧ i ≤ l.length ∧ ∃ F ρ fp ds acc rest, Aft JT G F0 fp0 H0 (maskE is ρ) (wipe σ is) F fp H [] ∧ (∀ b, F1 b → F b) ∧ (∀ b, F1 b → st1 (H b) = st1 (H1 b)) ∧
      (∀ b, (b ∈ f ∨ b ∈ g ∨ ∃ j, j ∈ is ∧ b ∈ fp1 j) → H b = H1 b) ∧ (∀ b, (b ∈ f ∨ ∃ j, j ∈ is ∧ b ∈ fp1 j) → ¬ F b ∧ ∀ k, b ∉ fp k) ∧ At F fp H DD acc ∧ Reps G F H ds acc ∧
      lcF (fun d e => bindT c t (.d d) (maskE is e)) (evc c cs) melt (l.drop i) ρ = some (rest, ρe) ∧ ds0 ++ total = ds ++ rest, ⟨l.length, rfl, Nat.zero_le _, F1, ρ1, fpM is fp1, ds0, acc0, total, a1.drop.mask is, fun _ h => h, fun _ _ => rfl, fun _ _ => rfl, fun b h => ?_, ⟨hD.at_, hD.nF, fun k z => hD.nfp k (mem_fpM z).2⟩, rps, by simpa using er, rfl⟩, ?_⟩
  · rcases h with h | ⟨j, hj, h⟩
    · exact ⟨(a1.tmp.out b h).1, fun k z => a1.tmp.dj k b h (mem_fpM z).2⟩
    · exact ⟨(a1.sto.out j b h).1, fun k z => by
        have := a1.sto.dj j k b h (mem_fpM z).2
        subst this
        exact (mem_fpM z).1 hj⟩
  · rintro i m H ⟨rfl, hil, F, ρ, fp, ds, acc, rest, a, sub, st, ex, out, hA, rs, ef, et⟩
    have yi := yl F H sub st (fun b h => ex b (.inr (.inl h))) a.sto.fr i
    by_cases hlt : i < l.length
    · refine .inr ?_
      obtain ⟨hgo, hy⟩ := yi.2 l[i] (List.getElem?_eq_getElem hlt)
      rw [List.drop_eq_getElem_cons hlt] at ef
      simp only [lcF] at ef
      cases eb : bindT c t (.d l[i]) (maskE is ρ) with
      | none => rw [eb] at ef; cases ef
      | some ρa =>
        rw [eb] at ef
        simp only at ef
        refine ⟨hgo, fun H' => ∃ m', m' < l.length - i ∧ (m' = l.length - (i + 1) ∧ i + 1 ≤ l.length ∧ ∃ F ρ fp ds acc rest, Aft JT G F0 fp0 H0 (maskE is ρ) (wipe σ is) F fp H' [] ∧ (∀ b, F1 b → F b) ∧ (∀ b, F1 b → st1 (H' b) = st1 (H1 b)) ∧
          (∀ b, (b ∈ f ∨ b ∈ g ∨ ∃ j, j ∈ is ∧ b ∈ fp1 j) → H' b = H1 b) ∧ (∀ b, (b ∈ f ∨ ∃ j, j ∈ is ∧ b ∈ fp1 j) → ¬ F b ∧ ∀ k, b ∉ fp k) ∧ At F fp H' DD acc ∧ Reps G F H' ds acc ∧
          lcF (fun d e => bindT c t (.d d) (maskE is e)) (evc c cs) melt (l.drop (i + 1)) ρ = some (rest, ρe) ∧ ds0 ++ total = ds ++ rest), fun H' h => h, fun x H3 yx => ?_⟩
        obtain ⟨F3, gr, rep⟩ := hy x H3 yx
        have l3 : Aft JT G F fp H (maskE is ρ) (wipe σ is) F3 fp H3 [] := (Aft.refl a.sto).grow gr
        refine ⟨F3, fp, H3, maskE is ρ, F3, fp, [], .d l[i], ρa, .refl l3.sto, by simp only [SlR]; exact ⟨trivial, rep⟩, eb, fun F4 fp4 σ4 a4 sub4 k4 b4 => ?_⟩
        have w4 : wipe σ4 is = wipe σ is := (wipe_eq (by rw [k4.1]) fun j hj => b4 j fun q => hj (his j q)).trans wipe_wipe
        refine ⟨w4, ?_⟩
        -- the places around, behind a step
        have cur : ∀ {ρz : Env} {F5 : Addr → Prop} {fp5 : Nat → List Addr} {H5 : Hp}, Aft JT G F4 fp4 H3 ρz σ4 F5 fp5 H5 [] → Aft JT G F fp H ρz σ4 F5 fp5 H5 [] ∧ At F5 fp5 H5 DD acc ∧ Reps G F5 H5 ds acc ∧ (∀ b, F1 b → F5 b) ∧ (∀ b, F1 b → st1 (H5 b) = st1 (H1 b)) ∧
            (∀ b, (b ∈ f ∨ b ∈ g ∨ ∃ j, j ∈ is ∧ b ∈ fp1 j) → H5 b = H1 b) ∧ (∀ b, (b ∈ f ∨ ∃ j, j ∈ is ∧ b ∈ fp1 j) → ¬ F5 b ∧ ∀ k, b ∉ fp5 k) := fun {ρz F5 fp5 H5} a5 => by
          have lo : Aft JT G F fp H ρz σ4 F5 fp5 H5 [] := (l3.trans a4).trans a5
          have out5 : ∀ b, (b ∈ f ∨ ∃ j, j ∈ is ∧ b ∈ fp1 j) → H5 b = H b ∧ ¬ F5 b ∧ ∀ k, b ∉ fp5 k := fun b h => by
            have e1 : H b = H1 b := ex b (h.elim .inl fun q => .inr (.inr q))
            exact lo.st.outside (out b h).1 ((owH b h).of e1) (out b h).2
          refine ⟨lo, hA.step lo.st, lo.st.reps a.sto rs, fun b h => lo.st.sub b (sub b h), fun b h => (lo.st.frSt1 a.sto b (sub b h)).trans (st b h), fun b h => ?_, fun b h => (out5 b h).2⟩
          rw [← ex b h]
          rcases h with h | h | h
          · exact (out5 b (.inl h)).1
          · rcases hgf b h with q | q
            · exact (out5 b (.inl q)).1
            · have nn : H b ≠ none := a.sto.fr b (sub b q)
              cases e3 : H b with
              | none => exact absurd e3 nn
              | some o => exact lo.st.keep b o e3 fun j hj => (a.sto.out j b hj).1 (sub b q)
          · exact (out5 b (.inr h)).1
        cases ec : evc c cs ρa with
        | none => rw [ec] at ef; cases ef
        | some q =>
          obtain ⟨rc, ρb⟩ := q
          rw [ec] at ef
          refine tM.of a4.sto ec ?_
          cases rc with
          | ex x => cases ef
          | ok bv =>
            intro F5 fp5 H5 bv' f5 a5 rl5
            obtain ⟨rfl, rfl⟩ := rl5
            obtain ⟨lo, hA5, rs5, sub5, st5, ex5, out5⟩ := cur a5
            cases bv with
            | false =>
              rw [if_neg Bool.false_ne_true]
              simp only at ef
              have tot := (a.trans lo).mask is
              rw [w4] at tot
              exact ⟨l.length - (i + 1), by omega, rfl, hlt, F5, ρb, fpM is fp5, ds, acc, rest, tot, sub5, st5, ex5, fun b h => ⟨(out5 b h).1, fun k z => (out5 b h).2 k (mem_fpM z).2⟩, ⟨hA5.at_, hA5.nF, fun k z => hA5.nfp k (mem_fpM z).2⟩, rs5, ef, et⟩
            | true =>
              rw [if_pos rfl]
              simp only at ef
              cases ee : melt ρb with
              | none => rw [ee] at ef; cases ef
              | some q =>
                obtain ⟨re, ρd⟩ := q
                rw [ee] at ef
                cases re with
                | ex x => cases ef
                | ok xs =>
                  simp only at ef
                  cases e7 : lcF (fun d e => bindT c t (.d d) (maskE is e)) (evc c cs) melt (l.drop (i + 1)) ρd with
                  | none => rw [e7] at ef; cases ef
                  | some q =>
                    obtain ⟨rest', ρf⟩ := q
                    rw [e7] at ef
                    simp only [Option.some.injEq, Prod.mk.injEq] at ef
                    obtain ⟨rfl, rfl⟩ := ef
                    have hlen : ds0.length + total.length = ds.length + (xs.length + rest'.length) := by
                      have := congrArg List.length et
                      simpa using this
                    refine hR (ds := ds) a5.sto hA5 rs5 ee (by omega) fun F6 fp6 H6 acc' a6 hA6 rs6 => ?_
                    have tot := (a.trans lo).transD a6 srcD
                    rw [w4] at tot
                    have keep6 : ∀ b, F5 b → H6 b = H5 b := fun b hb => by
                      cases e3 : H5 b with
                      | none => exact absurd e3 (a5.sto.fr b hb)
                      | some o => exact a6.st.keep b o e3 fun j hj => (mem_add hj).elim (fun e => hA5.nF (e ▸ hb)) fun hj => (a5.sto.out j b hj).1 hb
                    have ow5 : ∀ b, (b ∈ f ∨ ∃ j, j ∈ is ∧ b ∈ fp1 j) → Ow H5 b := fun b h => (owH b h).of (ex5 b (h.elim .inl fun q => .inr (.inr q)))
                    have out6 : ∀ b, (b ∈ f ∨ ∃ j, j ∈ is ∧ b ∈ fp1 j) → H6 b = H5 b ∧ ¬ F6 b ∧ ∀ k, b ∉ fp6 k := fun b h =>
                      a6.st.outsideD (neD b (h.elim .inl fun q => .inr (.inr q))) (out5 b h).1 (ow5 b h) (out5 b h).2
                    refine ⟨l.length - (i + 1), by omega, rfl, hlt, F6, ρd, fp6, ds ++ xs, acc', rest', ?_, fun b h => a6.st.sub b (sub5 b h), fun b h => by rw [keep6 b (sub5 b h)]; exact st5 b h, fun b h => ?_, fun b h => (out6 b h).2, hA6, rs6, e7, by rw [et]; simp⟩
                    · exact tot
                    · rw [← ex5 b h]
                      rcases h with h | h | h
                      · exact (out6 b (.inl h)).1
                      · rcases hgf b h with q | q
                        · exact (out6 b (.inl q)).1
                        · exact keep6 b (sub5 b q)
                      · exact (out6 b (.inr h)).1
    · have hi0 : l.length ≤ i := Nat.le_of_not_lt hlt
      rw [List.drop_eq_nil_of_le hi0] at ef
      simp only [lcF, Option.some.injEq, Prod.mk.injEq] at ef
      obtain ⟨rfl, rfl⟩ := ef
      rw [List.append_nil] at et
      exact .inl ⟨yi.1 hi0, hEnd F ρ fp H acc a hA (by rw [et]; exact rs) sub st ex out⟩
/-- a turn that makes one item -/
theorem lc_one {c : Ctx} {elt : E} {is : List Nat} {DD : Addr} {F5 : Addr → Prop} {ρb : Env} {fp5 : Nat → List Addr} {H5 : Hp} {σ4 : L2.St} {xs : List D} {ρd : Env} {acc : List V} {ds : List D} {N : Hp → Prop} (s : Sto JT G F5 ρb σ4 H5 fp5) (hA : At F5 fp5 H5 DD acc) (rs : Reps G F5 H5 ds acc)
    (ee : M.bind (ev c elt) (fun x => M.pure [x.frz]) ρb = some (.ok xs, ρd)) (hz : ds.length + xs.length ≤ sizeMax)
    (cont : ∀ F6 fp6 H6 acc', Aft JT G F5 (fpAdd fp5 DD) H5 (maskE is ρd) (wipe σ4 is) F6 fp6 H6 [] → At F6 fp6 H6 DD acc' → Reps G F6 H6 (ds ++ xs) acc' → N H6) :
    tE JT G WN (ev c elt) σ4 H5 fun y H7 => ∃ acc, H7 DD = some (.lst acc) ∧ acc.length < sizeLine ∧ N (upd H7 DD (.lst (acc ++ [y]))) := by
  refine bindO (k := fun x => M.pure [x.frz]) (res := (.ok xs, ρd)) s ee (fun x ρ' h => by cases h) fun r ρ1 em e6 F6 fp6 H6 y f6 a6 rl6 => ?_
  simp only [M.pure, Option.some.injEq, Prod.mk.injEq, Rs.ok.injEq] at e6
  obtain ⟨rfl, rfl⟩ := e6
  have hA6 := hA.step a6.frz.st
  have rep6 := a6.frzRep rl6
  have rs6 := a6.frz.st.reps s rs
  have hl := rs.length
  simp only [List.length_cons, List.length_nil] at hz
  have nF : ∀ b, (F6 b ∨ b ∈ f6) → b ≠ DD := fun b h e => hA6.nF (e ▸ h)
  refine ⟨acc, hA6.at_, by have := sizeMax_le; omega, cont _ (fpM is fp6) _ (acc ++ [y]) ((a6.frz.add.mask is).updT hA6.nF (fun k z => hA6.nfp k (mem_fpM z).2) (.inl ⟨0, add_self⟩)) ⟨upd_same, hA6.nF, fun k z => hA6.nfp k (mem_fpM z).2⟩ ?_⟩
  exact (rs6.mono (fun _ h => h) fun b h => by rw [upd_ne (nF b h)]).app (.one (rep6.mono (fun _ h => h) fun b h => by rw [upd_ne (nF b h)]))
theorem walk_tok {e : E} {m : M R} {ρ ρ' : Env} {l : List D} {tok : Option (Nat × D)} (hl : isLoc e = false) (h : walkS e m ρ = some (.ok (l, tok), ρ')) : tok = none := by
  have e0 : walkS e m = M.bind m fun x => M.bind (M.opt (if dicSrc e then itemsK x.frz else itemsN x.frz)) fun l => M.pure (l, none) := by
    cases e <;> first | rfl | (simp [isLoc] at hl; done)
  rw [e0] at h
  simp only [M.bind] at h
  cases h1 : m ρ with
  | none => rw [h1] at h; cases h
  | some z =>
    obtain ⟨z1, z2⟩ := z
    rw [h1] at h
    cases z1 with
    | ex y => cases h
    | ok q =>
      simp only [M.opt] at h
      cases h2 : (if dicSrc e then itemsK q.frz else itemsN q.frz) with
      | none => rw [h2] at h; cases h
      | some l =>
        rw [h2] at h
        simp only [M.pure, Option.some.injEq, Prod.mk.injEq, Rs.ok.injEq] at h
        exact h.1.2.symm
theorem Aft.updF {F0 F : Addr → Prop} {fp0 fp : Nat → List Addr} {H0 H : Hp} {ρ : Env} {σ : L2.St} {f : List Addr} (a : Aft JT G F0 fp0 H0 ρ σ F fp H f) {p : Addr} {o : HO} (h1 : ¬ F p) (h3 : ∀ k, p ∉ fp k) (h4 : p ∉ f) (src : (∃ k, p ∈ fp0 k) ∨ H0 p = none) :
    Aft JT G F0 fp0 H0 ρ σ F fp (upd H p o) f :=
  let b := a.drop.updT (o := o) h1 h3 src
  ⟨b.st, b.sto, ⟨a.tmp.nd, a.tmp.dj, fun x hx => ⟨(a.tmp.out x hx).1, (a.tmp.out x hx).2.of (upd_ne fun e => h4 (e ▸ hx))⟩⟩, a.src⟩
theorem lc2_of {c : Ctx} {t t2 : T} {src src2 elt : E} {cs cs2 : List E} {wi : TI} {σ : L2.St} {H0 : Hp} {Q : VK} {F0 : Addr → Prop} {fp0 : Nat → List Addr} {ρ0 : Env} {res : Rs R × Env} (hl2 : isLoc src2 = false) (s0 : Sto JT G F0 ρ0 σ H0 fp0)
    (e : ev c (.lc2 elt t src cs t2 src2 cs2) ρ0 = some res) (p : Post JT G W (RlV G) F0 fp0 H0 σ res Q) (hw : ∀ R, tW JT G W (walkS src (ev c src)) σ H0 R → wi σ H0 R) :
    tLc2 wi (tG JT G c t) (tT JT G WN (evc c cs)) (tW JT G WN (walkS src2 (ev c src2))) (tG JT G c t2) (tT JT G WN (evc c cs2)) (tE JT G WN (ev c elt)) (varsT t ++ varsT t2) (varsT t2) σ H0 Q := by
  simp only [ev] at e
  generalize his : varsT t ++ varsT t2 = is at *
  have hin1 : ∀ i, i ∈ varsT t → i ∈ is := fun i h => by rw [← his]; exact List.mem_append_left _ h
  have hin2 : ∀ i, i ∈ varsT t2 → i ∈ is := fun i h => by rw [← his]; exact List.mem_append_right _ h
  generalize hmelt : (walkM (walkS src2 (ev c src2)) fun items2 e =>
        match lcF (fun d e => bindT c t2 (.d d) (maskE (varsT t2) e)) (evc c cs2) (M.bind (ev c elt) fun x => M.pure [x.frz]) items2 e with
        | some (r, e') => some (Rs.ok r, e')
        | none => none) = melt at e
  generalize hw0 : walkS src (ev c src) = wsrc at e hw
  simp only [walkM, M.bind_assoc] at e
  refine hw _ (bindO s0 e p.exc0 fun w ρ1 em e1 F1 fp1 H1 J f af rl => ?_)
  obtain ⟨l, tok⟩ := w
  obtain ⟨⟨g, hgf, yl⟩, htk⟩ := rl
  simp only at htk yl
  intro DD hDD
  simp only [M.bind, keepM] at e1
  cases er : lcF (fun d e => bindT c t (.d d) (maskE is e)) (evc c cs) melt l ρ1 with
  | none => rw [er] at e1; cases e1
  | some q =>
    obtain ⟨total, ρe⟩ := q
    rw [er] at e1
    simp only at e1
    cases eu : unlockL tok (restE is ρ1 ρe) with
    | none => rw [eu] at e1; cases e1
    | some ρ2 =>
      rw [eu] at e1
      simp only [M.opt] at e1
      by_cases hz : total.length ≤ sizeMax
      · rw [if_pos hz] at e1
        simp only [Option.some.injEq] at e1
        subst e1
        have nF1 : ¬ F1 DD := fun z => af.sto.fr DD z hDD
        have nfp1 : ∀ k, DD ∉ fp1 k := fun k z => (af.sto.out k DD z).2.1 hDD
        have nf1 : DD ∉ f := fun z => (af.tmp.out DD z).2.1 hDD
        have ng1 : ∀ b, b ∈ g → b ≠ DD := fun b h e => by subst e; exact (hgf b h).elim nf1 nF1
        have srcD : (∃ k, DD ∈ fp0 k) ∨ H0 DD = none := af.none0 hDD
        have neF : ∀ b, F1 b → b ≠ DD := fun b h e => nF1 (e ▸ h)
        refine lc_loop (F0 := F0) (fp0 := fp0) (H0 := H0) (H1 := upd H1 DD (.lst [])) (acc0 := []) (ds0 := []) (melt := melt) hin1 (af.updF nF1 nfp1 nf1 srcD) hgf
          (fun F2 H2 sub st ex al => yl F2 H2 sub (fun b h => (st b h).trans (by rw [upd_ne (neF b h)])) (fun b h => (ex b h).trans (upd_ne (ng1 b h))) al) ⟨upd_same, nF1, nfp1⟩ nf1 srcD .nil er (by simpa using hz) ?_ ?_
        · intro F5 ρb fp5 H5 σ4 xs ρd acc ds N s hA rs ee hzz cont
          rw [← hmelt] at ee
          refine bindO (res := (.ok xs, ρd)) s ee (fun x ρ' h => by cases h) fun w2 ρ2' em2 e2 F6 fp6 H6 J1 f6 af6 rl6 => ?_
          obtain ⟨l2, tok2⟩ := w2
          have ht2 := walk_tok hl2 em2
          subst ht2
          obtain ⟨⟨g6, hgf6, yl6⟩, _⟩ := rl6
          simp only at yl6 e2
          cases er2 : lcF (fun d e => bindT c t2 (.d d) (maskE (varsT t2) e)) (evc c cs2) (M.bind (ev c elt) fun x => M.pure [x.frz]) l2 ρ2' with
          | none => rw [er2] at e2; cases e2
          | some q =>
            obtain ⟨r2, ρe2⟩ := q
            rw [er2] at e2
            simp only [unlockL, Option.some.injEq, Prod.mk.injEq, Rs.ok.injEq] at e2
            obtain ⟨rfl, rfl⟩ := e2
            refine lc_loop (F0 := F5) (fp0 := fpAdd fp5 DD) (H0 := H5) (acc0 := acc) (ds0 := ds) (fun _ h => h) af6.add hgf6 yl6 (hA.step af6.st) (fun z => ?_) (.inl ⟨0, add_self⟩) (af6.st.reps s rs) er2 hzz (fun s' hA' rs' ee' hz' cont' => lc_one s' hA' rs' ee' hz' cont') fun F ρ fp H acc' a hA' rs' _ _ _ _ => ?_
            · rcases af6.src DD z with ⟨k, h⟩ | h
              · exact hA.nfp k h
              · rw [hA.at_] at h; cases h
            · have am := a.mask is
              rw [maskE_mask hin2, wipe_mask hin2] at am
              exact cont F (fpM is fp) H acc' am ⟨hA'.at_, hA'.nF, fun k z => hA'.nfp k (mem_fpM z).2⟩ rs'
        · intro F ρ fp H acc a hA rps sub st ex out
          rw [List.nil_append] at rps
          have st' : ∀ b, F1 b → st1 (H b) = st1 (H1 b) := fun b h => (st b h).trans (by rw [upd_ne (neF b h)])
          have neD : ∀ b, (b ∈ f ∨ b ∈ g ∨ ∃ j, j ∈ is ∧ b ∈ fp1 j) → b ≠ DD := fun b h e => by
            subst e
            rcases h with h | h | ⟨j, _, h⟩
            · exact nf1 h
            · exact ng1 b h rfl
            · exact nfp1 j h
          have ex' : ∀ b, (b ∈ f ∨ b ∈ g ∨ ∃ j, j ∈ is ∧ b ∈ fp1 j) → H b = H1 b := fun b h => (ex b h).trans (upd_ne (neD b h))
          have inH : ∀ j b, j ∈ is → b ∈ fp1 j → H b = H1 b := fun j b hj hb => ex' b (.inr (.inr ⟨j, hj, hb⟩))
          have owH : ∀ b, (b ∈ f ∨ ∃ j, j ∈ is ∧ b ∈ fp1 j) → Ow H1 b := fun b h => by
            rcases h with h | ⟨j, _, h⟩
            · exact (af.tmp.out b h).2
            · exact (af.sto.out j b h).2
          have srcH : ∀ b, (b ∈ f ∨ ∃ j, j ∈ is ∧ b ∈ fp1 j) → (∃ k, b ∈ fp0 k) ∨ H0 b = none := fun b h => by
            rcases h with h | ⟨j, _, h⟩
            · exact af.src b h
            · exact af.st.newO j b h
          have len1 : ρ1.length = ρe.length := by
            have q1 := a.sto.len
            rw [maskE_len, wipe_length] at q1
            rw [af.sto.len, q1]
          have um := a.unmask (ρ1 := ρ1) (fq := fp1) len1 (fun j r hj hr => by
            obtain ⟨v, ev, q⟩ := af.sto.sl j r hr
            exact ⟨v, ev, q.mono sub st' fun b hb => inH j b hj hb⟩) af.sto.nd af.sto.dj (fun j b hj hb => ⟨(out b (.inr ⟨j, hj, hb⟩)).1, (owH b (.inr ⟨j, hj, hb⟩)).of (inH j b hj hb), (out b (.inr ⟨j, hj, hb⟩)).2, by simp, srcH b (.inr ⟨j, hj, hb⟩)⟩)
          have memU : ∀ k b, b ∈ (if k ∈ is then fp1 k else fp k) → (∃ j, j ∈ is ∧ b ∈ fp1 j) ∨ b ∈ fp k := fun k b h => by
            by_cases hk : k ∈ is
            · rw [if_pos hk] at h; exact .inl ⟨k, hk, h⟩
            · rw [if_neg hk] at h; exact .inr h
          have tf : Tmp F (fun j => if j ∈ is then fp1 j else fp j) H f := ⟨af.tmp.nd, fun k b hb hk => by
            rcases memU k b hk with ⟨j, hj, q⟩ | q
            · exact af.tmp.dj j b hb q
            · exact (out b (.inl hb)).2 k q, fun b hb => ⟨(out b (.inl hb)).1, (af.tmp.out b hb).2.of (ex' b (.inl hb))⟩⟩
          have tD : Tmp F (fun j => if j ∈ is then fp1 j else fp j) H [DD] := ⟨by simp, fun k b hb hk => by
            have e : b = DD := by simpa using hb
            subst e
            rcases memU k b hk with ⟨j, hj, q⟩ | q
            · exact nfp1 j q
            · exact hA.nfp k q, fun b hb => by
            have e : b = DD := by simpa using hb
            subst e
            exact ⟨hA.nF, hA.ow⟩⟩
          have uD := um.with_ (f := [DD]) tD (fun _ _ h => by simp at h) (fun b hb => by
            have e : b = DD := by simpa using hb
            subst e; exact srcD)
          rw [List.append_nil] at uD
          obtain ⟨fp', u⟩ := unlock_ok uD tf (fun b hb h => by
            have e : b = DD := by simpa using h
            subst e
            exact nf1 hb) af.src (fun j x et => by
            obtain ⟨q, hq, hf, o⟩ := htk j x et
            exact ⟨q, hq, hf, o.mono sub st' (ex' q (.inl (by rw [hf]; simp)))⟩) eu
          exact p F fp' H (.ref DD) [DD] u (by simp only [RlV, SlR]; exact ⟨DD, rfl, rfl, acc, hA.at_, rps⟩)
      · rw [if_neg hz] at e1; cases e1
theorem bw_lc2 {pelt ptg pit ptg1 pit1 : Expr} {pifs pifs1 : List Expr} {scope : Scope} {own : List (Str × Nat)} {pos : Pos} {c : Ctx} {elt src src2 : E} {t t2 : T} {cs cs2 : List E} (hc : X.calm = true) (hN : X.N.Nodup) (hl2 : isLoc src2 = false) (hi : PI X ptg pit (tW JT G W (walkS src (ev c src)))) (ok : BlkOk X.N X.env.scope scope own)
    (hg : ∀ (s : Shared) (H : Hp) (C : Addr) (cl : List (Str × Addr)) (fp : List Addr), PG (X.blk s H scope (compEnvC scope cl C X.env) fp) ptg (tG JT G c t)) (ht : ∀ (s : Shared) (H : Hp) (C : Addr) (cl : List (Str × Addr)) (fp : List Addr), PTs (X.blk s H scope (compEnvC scope cl C X.env) fp) pifs (tT JT G WN (evc c cs)))
    (hi1 : ∀ (s : Shared) (H : Hp) (C : Addr) (cl : List (Str × Addr)) (fp : List Addr), PI (X.blk s H scope (compEnvC scope cl C X.env) fp) ptg1 pit1 (tW JT G WN (walkS src2 (ev c src2))))
    (hg1 : ∀ (s : Shared) (H : Hp) (C : Addr) (cl : List (Str × Addr)) (fp : List Addr), PG (X.blk s H scope (compEnvC scope cl C X.env) fp) ptg1 (tG JT G c t2)) (ht1 : ∀ (s : Shared) (H : Hp) (C : Addr) (cl : List (Str × Addr)) (fp : List Addr), PTs (X.blk s H scope (compEnvC scope cl C X.env) fp) pifs1 (tT JT G WN (evc c cs2)))
    (he : ∀ (s : Shared) (H : Hp) (C : Addr) (cl : List (Str × Addr)) (fp : List Addr), PE (X.blk s H scope (compEnvC scope cl C X.env) fp) pelt (tE JT G WN (ev c elt))) (hs : ∀ x, foldedSetIterable pit X.env x = pure x) (hs1 : ∀ env x, foldedSetIterable pit1 env x = pure x) (hv : own.map (·.2) = varsT t ++ varsT t2) :
    PE X (.ListComp pelt [⟨ptg, pit, pifs, 0⟩, ⟨ptg1, pit1, pifs1, 0⟩] scope pos) (tE JT G W (ev c (.lc2 elt t src cs t2 src2 cs2))) :=
  PE.weak (pe_lc2 (vs1 := varsT t2) hc hN hi ok (fun i h => by rw [hv]; exact List.mem_append_right _ h) hg ht hi1 hg1 ht1 he hs hs1) fun σ H Q ⟨F, ρ, fp, res, s, e, p⟩ => by
    have := lc2_of (W := W) (wi := tW JT G W (walkS src (ev c src))) hl2 s e p fun _ h => h
    rw [← hv] at this
    exact this
end
end Mini
/-! Mini, part ZC: a dict display of one pair. -/
namespace Mini
open PySem L2

section
variable {X : Cx}
/-- {k: v}, k a tuple -/
def tDisp1T (tk tv : TE) : TE := fun σ H Q => ∀ p, H p = none → tPairs [(tk, tv)] σ (upd H p (.dT [])) fun ps H2 => H2 p = some (.dT []) ∧ ∃ (x y : V) (b : Addr) (ks : List Key), ps = [(x, y)] ∧ x = .ref b ∧ H2 b = some (.tup (ks.map kV)) ∧ Q (.ref p) (upd H2 p (.dT [(ks, y)]))
theorem pe_disp1T {pk pv : Expr} {tk tv : TE} {pos : Pos} (hu : X.A.units < cLine) (hk : PE X pk tk) (hv : PE X pv tv) : PE X (.Dict [some pk] [pv] pos) (tDisp1T tk tv) := by
  refine ⟨fun pins s σ H Q I q => ?_⟩
  have hn := I.hok.fresh (Nat.le_refl s.heap.objs.size)
  have I1 := I.laid (a := s.heap.objs.size) (o := .dT []) (h' := s.heap.push { cls := .type "dict", data := .dict #[] }) (t' := s.toks) (fun _ _ q => Heap.get?_push_of_some _ q) (Nat.le_refl _) (dt_empty s.heap I.big)
  have hall : ([some pk] : List (Option Expr)).all (·.isSome) = true := rfl
  have hlen : (pairTrees [some pk] [pv] X.env pos).length = 1 := pairTrees_length [some pk] [pv] X.env pos hall rfl
  rw [PySem.arm_eval_Dict, PySem.zip_pairTrees [some pk] [pv] X.env pos hall rfl, PySem.dictDisplay_pairs _ (fun he => by rw [he] at hlen; cases hlen) (by rw [hlen]; omega)]
  refine wpAny_bind (wpAny_standAt (wpAny_bind (wpAny_subDictH (knd := tupleKind (mixKind X.prog X.w)) (Q := fun d s' => wpAny (model X.prog X.w) X.A (pure (Value.ref d)) (EP X pins σ Q) X.xe s') hu (by rw [hlen]; omega)
    (thn ((pps_cons (pos := pos) hk hv pps_nil).run pins _ σ _ _ I1 (q _ hn)) fun ws s2 ⟨ps, H2, I2, rel, e, x, y, b, ks, ep, ex, eb, q2⟩ => ?_))))
  subst ep ex
  cases rel with
  | @cons p w1 _ _ r1 rr =>
    cases rr
    obtain ⟨w1, w2⟩ := w1
    obtain ⟨r1, r2⟩ := r1
    obtain rfl : w1 = Value.ref b := r1
    obtain ⟨z, hd, xs, rel0, dd⟩ := dt_of I2.hok e
    have hxs : xs = [] := by cases rel0; rfl
    subst hxs
    refine ⟨[(ks, b, w2)], ⟨rfl, rfl, L2.key_of I2.hok eb, trivial⟩, dd, fun h' tk dd' hs => wpAny_pure ⟨.ref s.heap.objs.size, _, ?_, rfl, q2⟩⟩
    obtain ⟨q, es, ep, hq, h2, h3, h4, _, h5⟩ := dd'
    refine d_write I2 (by rw [e]; exact True.intro) hs ⟨q, hq⟩ ⟨by show 1 ≤ sizeLine; rw [sizeLine_eq]; omega, hd, [(ks, b, w2)], .cons ⟨rfl, ?_, r2⟩ .nil, q, es, ep, hq, h2, h3, h4, h5⟩
    rw [upd_ne (ne_of eb e (fun z => nomatch z))]
    exact eb
end

section
variable {Js : SP} {G : Gs} {W : WX} {X : Cx} {c : Ctx} {A : Adr}
theorem Aft.updD {F0 F : Addr → Prop} {fp0 fp : Nat → List Addr} {H0 H : Hp} {ρ : Env} {σ : L2.St} {p : Addr} (a : Aft Js G F0 fp0 H0 ρ σ F fp H [p]) {o : HO} (no : ∀ xs, o ≠ .tup xs) : Aft Js G F0 fp0 H0 ρ σ F fp (upd H p o) [p] := by
  have hm : p ∈ [p] := by simp
  have nF : ∀ b, F b → b ≠ p := fun b h e => by subst e; exact (a.tmp.out b hm).1 h
  have nfp : ∀ i b, b ∈ fp i → b ≠ p := fun i b h e => by subst e; exact a.tmp.dj i b hm h
  refine ⟨⟨a.st.sub, fun b u h n => ?_, a.st.new, a.st.newO⟩, ⟨a.sto.len, fun i r h => ?_, a.sto.nd, a.sto.dj, fun i b h => ⟨(a.sto.out i b h).1, (a.sto.out i b h).2.of (upd_ne (nfp i b h))⟩, fun b h => by rw [upd_ne (nF b h)]; exact a.sto.fr b h, Js.m (fun _ h => h) (fun b h => by rw [upd_ne (nF b h)]) a.sto.j⟩,
    ⟨a.tmp.nd, a.tmp.dj, fun b hb => ?_⟩, a.src⟩
  · have : b ≠ p := fun e => by
      subst e
      rcases a.src b hm with ⟨i, q⟩ | q
      · exact n i q
      · rw [h] at q; cases q
    rw [upd_ne this]
    exact a.st.keep b u h n
  · obtain ⟨v, e, q⟩ := a.sto.sl i r h
    exact ⟨v, e, q.mono (fun _ h => h) (fun b h => by rw [upd_ne (nF b h)]) fun b hb => upd_ne (nfp i b hb)⟩
  · have e : b = p := by simpa using hb
    subst e
    exact ⟨(a.tmp.out b hm).1, by rw [upd_same]; simp, fun xs => by rw [upd_same]; exact fun z => no xs (Option.some.inj z)⟩
def isDstar : E → Bool
  | .dstar _ => true
  | _ => false
theorem ev_dict1 {k v : E} (h : isDstar k = false) : ev c (.dict [k] [v]) = M.bind (ev c k) fun x => M.bind (ev c v) fun y => if isKey x.frz then M.pure (.own (.dic [(x.frz, y.frz)])) else M.fail := by
  have hp : ∀ (x y : M R) (r : M (List (D × D))), pairM k x y r = M.bind x fun x => M.bind y fun y => if isKey x.frz then M.bind r fun r => M.pure ((x.frz, y.frz) :: r) else M.fail := fun x y r => by
    cases k <;> first | rfl | cases h
  simp only [ev, evk, evm, hp, M.bind_assoc]
  funext e
  simp only [M.bind]
  cases ev c k e with
  | none => rfl
  | some z =>
    obtain ⟨r1, e1⟩ := z
    cases r1 with
    | ex x => rfl
    | ok x =>
      simp only
      cases ev c v e1 with
      | none => rfl
      | some z =>
        obtain ⟨r2, e2⟩ := z
        cases r2 with
        | ex y => rfl
        | ok y =>
          simp only
          by_cases hk : isKey x.frz = true
          · simp [hk, M.pure, dPut, M.bind]
          · simp [hk, M.fail, M.bind]
theorem bw_dict1 {pk pv : Expr} {k v : E} {pos : Pos} (hu : X.A.units < cLine) (hs : isDstar k = false) (hk : PE X pk (tE Js G W (ev c k))) (hv : PE X pv (tE Js G W (ev c v))) : PE X (.Dict [some pk] [pv] pos) (tE Js G W (ev c (.dict [k] [v]))) := by
  refine PE.weak (PE.or (pe_disp (pps_cons hk hv pps_nil) rfl rfl (by simp) (by simp)) (pe_disp1T hu hk hv)) fun σ H Q ⟨F, ρ, fp, res, s, em, p'⟩ => ?_
  rw [ev_dict1 hs] at em
  have main : ∀ (o : HO) (no : ∀ xs, o ≠ .tup xs) (K : Addr → List (V × V) → Hp → Prop),
      (∀ (p : Addr) (F2 : Addr → Prop) (fp2 : Nat → List Addr) (H2 : Hp) (ρ1 : Env) (x y : R) (kv vv : V) (ρ2 : Env), ev c k ρ = some (.ok x, ρ1) → Aft Js G F fp H ρ2 σ F2 fp2 H2 [p] → H2 p = some o → Rep G F2 H2 x.frz kv → Rep G F2 H2 y.frz vv → (if isKey x.frz then M.pure (R.own (.dic [(x.frz, y.frz)])) else M.fail) ρ2 = some res → K p [(kv, vv)] H2) →
      ∀ p, H p = none → tPairs [(tE Js G W (ev c k), tE Js G W (ev c v))] σ (upd H p o) (K p) := fun o no K hK p hp => by
    have a0 : Aft Js G F fp H ρ σ F fp (upd H p o) [p] := (Aft.refl s).newO hp no
    refine bindO a0.sto em (p'.exc a0) fun x ρ1 em1 e1 F1 fp1 H1 kv f1 af1 rl1 => ?_
    have a1 := a0.trans2 af1.frz
    refine bindO a1.sto e1 (p'.exc a1) fun y ρ2 em2 e2 F2 fp2 H2 vv f2 af2 rl2 => ?_
    have a2 := a1.trans2 af2.frz
    have rk := af2.frz.st.rep a1.sto (af1.frzRep rl1)
    have rv := af2.frzRep rl2
    refine hK p _ fp2 H2 ρ1 x y kv vv ρ2 em1 a2 ?_ rk rv e2
    rw [af2.frz.st.tmpSt1 a1.tmp p (by simp), af1.frz.st.tmpSt1 a0.tmp p (by simp), upd_same]
  have fin : ∀ {p : Addr} {F2 : Addr → Prop} {fp2 : Nat → List Addr} {H2 : Hp} {x y : R} {ρ2 : Env} {o' : HO}, Aft Js G F fp H ρ2 σ F2 fp2 H2 [p] → (if isKey x.frz then M.pure (R.own (.dic [(x.frz, y.frz)])) else M.fail) ρ2 = some res → (∀ xs, o' ≠ .tup xs) →
      OwnAt G F2 (upd H2 p o') p (.dic [(x.frz, y.frz)]) → Q (.ref p) (upd H2 p o') := fun {p F2 fp2 H2 x y ρ2 o'} a2 e2 no ow => by
    by_cases hkk : isKey x.frz = true
    · rw [if_pos hkk] at e2
      simp only [M.pure, Option.some.injEq] at e2
      subst e2
      exact p' F2 fp2 _ (.ref p) [p] (a2.updD no) (by simp only [RlV, SlR]; exact ⟨p, rfl, rfl, ow⟩)
    · rw [if_neg hkk] at e2; cases e2
  have keyOk : ∀ {x y : R} {ρ2 : Env}, (if isKey x.frz then M.pure (R.own (.dic [(x.frz, y.frz)])) else M.fail) ρ2 = some res → isKey x.frz = true := fun {x y ρ2} e2 => by
    by_cases hkk : isKey x.frz = true
    · exact hkk
    · rw [if_neg hkk] at e2; cases e2
  have nF : ∀ {p : Addr} {F2 : Addr → Prop} {fp2 : Nat → List Addr} {H2 : Hp} {ρ2 : Env}, Aft Js G F fp H ρ2 σ F2 fp2 H2 [p] → ∀ b, F2 b → b ≠ p := fun a2 b h e => by subst e; exact (a2.tmp.out b (by simp)).1 h
  by_cases ht : ∃ x ρ1, ev c k ρ = some (.ok x, ρ1) ∧ isTupD x.frz = true
  · obtain ⟨x0, ρ10, em0, ht⟩ := ht
    refine .inr fun p hp => main (.dT []) (fun _ z => nomatch z) (fun p ps H2 => H2 p = some (.dT []) ∧ ∃ (x y : V) (b : Addr) (ks : List Key), ps = [(x, y)] ∧ x = .ref b ∧ H2 b = some (.tup (ks.map kV)) ∧ Q (.ref p) (upd H2 p (.dT [(ks, y)])))
      (fun p F2 fp2 H2 ρ1 x y kv vv ρ2 em1 a2 hH rk rv e2 => ?_) p hp
    rw [em0] at em1
    cases em1
    refine ⟨hH, ?_⟩
    rcases key_of (keyOk e2) rk.rep1 with ⟨kk, k1, rfl⟩ | ⟨ks, b, k1, rfl, hb⟩
    · exfalso
      cases hz : x0.frz <;> rw [hz] at k1 ht <;> first | (cases kk <;> exact k1) | (cases ht; done)
    · refine ⟨_, vv, b, ks, rfl, rfl, hb, fin a2 e2 (fun _ z => nomatch z) (.inr ⟨[(ks, vv)], by simp, upd_same, ?_⟩)⟩
      simp only [RepT, RepTp]
      exact ⟨ks, vv, [], rfl, ⟨k1, rv.mono (fun _ h => h) fun b hb => by rw [upd_ne (nF a2 b hb)]⟩, rfl⟩
  · refine .inl fun p hp => main (.dK []) (fun _ z => nomatch z) (fun p ps H2 => H2 p = some (.dK []) ∧ ∃ kvs : List (Key × V), ps = kvs.map (fun kv => (kV kv.1, kv.2)) ∧ kvs.length ≤ 15 ∧ Q (.ref p) (upd H2 p (.dK (mergeK [] kvs))))
      (fun p F2 fp2 H2 ρ1 x y kv vv ρ2 em1 a2 hH rk rv e2 => ?_) p hp
    refine ⟨hH, ?_⟩
    rcases key_of (keyOk e2) rk.rep1 with ⟨kk, k1, rfl⟩ | ⟨ks, b, k1, rfl, hb⟩
    · refine ⟨[(kk, vv)], rfl, by simp, fin a2 e2 (fun _ z => nomatch z) (.inl ⟨_, upd_same, ?_⟩)⟩
      simp only [mergeK, List.foldl, putK, List.any_nil, Bool.false_eq_true, if_false, List.nil_append, RepK, RepKp]
      exact ⟨kk, vv, [], rfl, ⟨k1, rv.mono (fun _ h => h) fun b hb => by rw [upd_ne (nF a2 b hb)]⟩, rfl⟩
    · exfalso
      refine ht ⟨x, ρ1, em1, ?_⟩
      cases hz : x.frz <;> rw [hz] at k1 <;> first | rfl | exact k1.elim
end
end Mini
/-! Mini, part ZD: sets of texts, made of a list and sorted. -/
namespace Mini
open PySem PySem.Spec PyProof.Rows L2

def keyS (e : Int × Value) : Str := match e.2 with | .str k _ => k | _ => Str.empty
def GoodS (P : Program) (w : World) (e : Int × Value) : Prop := ∃ k tk, e.2 = Value.str k tk ∧ e.1 = (PySem.strKind P w).hash k
/-- the set of the texts ks at a; its table rises and can be walked -/
structure SetS (P : Program) (w : World) (h : Heap) (a : Addr) (ks : List Str) (o : Obj) (es : Array (Int × Value)) (ep : Nat) (t : SetTable) : Prop where
  at_ : h.get? a = some o
  exact_ : o.ExactSet
  data : o.data = .set es ep t
  good : ∀ e ∈ es.toList, GoodS P w e
  nodup : (es.toList.map keyS).Nodup
  mem : ∀ k, k ∈ ks ↔ k ∈ es.toList.map keyS
  few : es.size ≤ ks.length
  fits : t.fits es.size = true
  ris : Ris t.place.toList
  led : w.params.followText "set-order" = true ∨ t.led = true
def SetSX (P : Program) (w : World) (h : Heap) (a : Addr) (ks : List Str) : Prop := ∃ o es ep t, SetS P w h a ks o es ep t

section
variable {P : Program} {w : World} {A : Around} {E : Value → Shared → Prop} {s : Shared} {a : Addr} {ks : List Str}
theorem SetSX.keep {h h' : Heap} (R : SetSX P w h a ks) (k : ∀ o, h.get? a = some o → h'.get? a = some o) : SetSX P w h' a ks :=
  let ⟨o, es, ep, t, r⟩ := R
  ⟨o, es, ep, t, { r with at_ := k o r.at_ }⟩
theorem goodS_elems {l : List (Int × Value)} (g : ∀ e ∈ l, GoodS P w e) : ElemsOf (PySem.strKind P w) l := fun e he => by
  obtain ⟨k, tk, h1, h2⟩ := g e he
  rw [h1]
  exact ⟨⟨k, strKind_is _ _ _ _, h2⟩, rfl⟩
theorem goodS_is {e : Int × Value} (g : GoodS P w e) (k : Str) : (PySem.strKind P w).is k e.2 = true ↔ keyS e = k := by
  obtain ⟨k0, tk, h1, _⟩ := g
  unfold keyS
  rw [h1]
  exact ⟨fun q => by
    have q' : (k0 == k) = true := q
    exact eq_of_beq q', fun q => by subst q; exact strKind_is _ _ _ _⟩
theorem goodS_mem {l : List (Int × Value)} (g : ∀ e ∈ l, GoodS P w e) (k : Str) : k ∈ l.map keyS ↔ ∃ e ∈ l, (PySem.strKind P w).is k e.2 = true := by
  rw [List.mem_map]
  exact ⟨fun ⟨e, he, q⟩ => ⟨e, he, (goodS_is (g e he) k).mpr q⟩, fun ⟨e, he, q⟩ => ⟨e, he, (goodS_is (g e he) k).mp q⟩⟩
/-- the new entries are stored, then the table may grow -/
theorem setS_store {gw : Bool → Sem Unit} (hg : ∀ (b : Bool) (s₁ : Shared) (Q' : Unit → Shared → Prop), Q' () s₁ → wpAny (model P w) A (gw b) Q' E s₁) {o : Obj} {es es1 : Array (Int × Value)} {ep : Nat} {t t2 : SetTable} {ks' : List Str} {dummy : Bool} {Q : Option Bool → Shared → Prop}
    (ho : s.heap.get? a = some o) (hd : o.data = .set es ep t) (hb : es1.size < scanBound) (mk : ∀ h' ep', h'.get? a = some { o with data := .set es1 ep' t2 } → SetS P w h' a ks' { o with data := .set es1 ep' t2 } es1 ep' t2)
    (hQ : ∀ h', Heap.SameBut a s.heap h' → SetSX P w h' a ks' → Q (some true) { s with heap := h' }) :
    wpAny (model P w) A (do storeSet a es1 t2; if (!dummy && t2.tooFull) = true then do gw (relayAll t2 es1 (SetTable.grown es1.size)).2.2; storeSet a (relayAll t2 es1 (SetTable.grown es1.size)).1 (relayAll t2 es1 (SetTable.grown es1.size)).2.1; pure (some true) else pure (some true)) Q E s := by
  have at1 := store_at (es' := es1) (t' := t2) ho hd
  have but1 := Heap.SameBut.update s.heap a (Obj.putSet es1 t2)
  have S1 := mk _ _ at1
  refine wpAny_bind (wpAny_storeSet_of ho hd ?_ (fits_of_scanBound hb))
  split
  · have pm := relayAll_perm t2 es1 (SetTable.grown es1.size)
    have f3 := relayAll_fits t2 es1 (SetTable.grown es1.size)
    have r3 := relayAll_ris t2 es1 (SetTable.grown es1.size)
    have l3 := relayAll_led t2 es1 (SetTable.grown es1.size)
    generalize relayAll t2 es1 (SetTable.grown es1.size) = Z at pm f3 r3 l3 ⊢
    obtain ⟨es2, t3, gave⟩ := Z
    dsimp only at pm f3 r3 l3 ⊢
    have size2 : es2.size = es1.size := by rw [← Array.length_toList, pm.length_eq, Array.length_toList]
    refine wpAny_bind (hg _ _ _ (wpAny_bind (wpAny_storeSet_of at1 rfl ?_ (fits_of_scanBound (by rw [size2]; exact hb)))))
    refine wpAny_pure (hQ _ (but1.trans (Heap.SameBut.update _ a _)) ⟨_, es2, _, t3, store_at (es' := es2) (t' := t3) at1 rfl, S1.exact_, rfl, fun e he => S1.good e (pm.mem_iff.mp he), (pm.map keyS).nodup_iff.mpr S1.nodup, fun k => (S1.mem k).trans (pm.map keyS).mem_iff.symm,
      by rw [size2]; exact S1.few, f3, r3, S1.led.imp id fun z => by rw [l3]; exact z⟩)
  · exact wpAny_pure (hQ _ but1 ⟨_, _, _, _, S1⟩)
theorem setS_add {k : Str} {tk : Tok} {Q : Bool → Shared → Prop} (R : SetSX P w s.heap a ks) (room : ks.length + 1 < scanBound) (hQ : ∀ b h', Heap.SameBut a s.heap h' → SetSX P w h' a (ks ++ [k]) → Q b { s with heap := h' }) :
    wpAny (model P w) A (setAddHashed a (.str k tk) ((PySem.strKind P w).hash k)) Q E s := by
  obtain ⟨o, es, ep, t, R⟩ := R
  have key : (PySem.strKind P w).is k (.str k tk) = true := strKind_is _ _ _ _
  have sc : (Value.str k tk).scannable = true := rfl
  have els := goodS_elems (P := P) (w := w) R.good
  have hb : es.size < scanBound := by have := R.few; omega
  unfold setAddHashed setAddHashedIn
  refine wpAny_holding (wpAny_bind (wpAny_setState_of R.at_ R.data R.fits ?_))
  dsimp only
  rw [byScan_of sc hb els]
  simp only [↓reduceIte]
  unfold setAddByScan
  refine wpAny_bind (wpAny_bind (wpAny_rule (wpAny_bind (wpAny_setScan_of key R.at_ R.data R.fits els ?_))))
  cases hfi : List.findIdx? (fun e => (PySem.strKind P w).is k e.2) es.toList with
  | some j =>
    dsimp only
    obtain ⟨hj, pj, _⟩ := List.findIdx?_eq_some_iff_getElem.mp hfi
    have hk : k ∈ es.toList.map keyS := (goodS_mem (P := P) (w := w) R.good k).mpr ⟨es.toList[j], List.getElem_mem hj, pj⟩
    refine wpAny_pure (wpAny_pure (hQ false s.heap (Heap.SameBut.refl a s.heap) ⟨o, es, ep, t, { R with mem := fun i => ?_, few := by have := R.few; simp; omega }⟩))
    rw [List.mem_append, List.mem_singleton, R.mem i]
    exact ⟨fun z => z.elim id fun e => e ▸ hk, .inl⟩
  | none =>
    dsimp only
    have nk : k ∉ es.toList.map keyS := fun z => by
      obtain ⟨e, he, q⟩ := (goodS_mem (P := P) (w := w) R.good k).mp z
      rw [List.findIdx?_eq_none_iff.mp hfi e he] at q; cases q
    have gw : ∀ (b : Bool) {s₁ : Shared} {Q' : Unit → Shared → Prop}, Q' () s₁ → wpAny (model P w) A (match b with | true => rule "set.scan.the-table-gave-way" | false => pure ()) Q' E s₁ := fun b s₁ Q' q => by
      cases b
      · exact wpAny_pure q
      · exact wpAny_rule q
    have pm := layNew_perm t es ((PySem.strKind P w).hash k) (.str k tk)
    have f1 := layNew_fits t es ((PySem.strKind P w).hash k) (.str k tk)
    have r1 := layNew_ris t es ((PySem.strKind P w).hash k) (.str k tk) R.ris
    have l1 := layNew_led t es ((PySem.strKind P w).hash k) (.str k tk)
    generalize layNew t es ((PySem.strKind P w).hash k) (.str k tk) = Z at pm f1 r1 l1 ⊢
    obtain ⟨es1, t1, dummy, gave⟩ := Z
    dsimp only at pm f1 r1 l1 ⊢
    rw [Array.toList_push] at pm
    have pc : es1.toList.Perm (((PySem.strKind P w).hash k, Value.str k tk) :: es.toList) := pm.trans (List.perm_append_singleton _ _)
    have pk : (es1.toList.map keyS).Perm (k :: es.toList.map keyS) := pc.map keyS
    have size1 : es1.size = es.size + 1 := by rw [← Array.length_toList, pc.length_eq, List.length_cons, Array.length_toList]
    have mk : ∀ (t2 : SetTable), t2.fits es1.size = true → Ris t2.place.toList → t2.led = t1.led → ∀ h' ep', h'.get? a = some { o with data := .set es1 ep' t2 } → SetS P w h' a (ks ++ [k]) { o with data := .set es1 ep' t2 } es1 ep' t2 := fun t2 q1 q2 q3 h' ep' q4 =>
      { at_ := q4, exact_ := R.exact_, data := rfl, good := fun e he => by
          rcases List.mem_cons.mp (pc.mem_iff.mp he) with z | z
          · rw [z]; exact ⟨k, tk, rfl, rfl⟩
          · exact R.good e z
        nodup := pk.nodup_iff.mpr (List.nodup_cons.mpr ⟨nk, R.nodup⟩)
        mem := fun i => by rw [List.mem_append, List.mem_singleton, R.mem i, pk.mem_iff, List.mem_cons]; exact Or.comm
        few := by rw [size1]; have := R.few; simp; omega
        fits := q1, ris := q2, led := R.led.imp id fun z => by rw [q3, l1]; exact z }
    have hb1 : es1.size < scanBound := by have := R.few; omega
    refine wpAny_bind (gw _ ?_)
    split
    · refine wpAny_bind ?_
      rw [hashByValue_scannable 8 sc]
      refine wpAny_pure (setS_store (fun b s₁ Q' q => gw b q) R.at_ R.data hb1 (ks' := ks ++ [k]) (mk _ ?_ ?_ ?_) fun h' sb r => wpAny_pure (hQ true h' sb r))
      · first | (split <;> first | exact f1 | exact SetTable.fits_plain_off f1) | exact f1
      · first | (split <;> exact r1) | exact r1
      · first | (split <;> rfl) | rfl
    · refine wpAny_bind (wpAny_pure ?_)
      simp only [↓reduceIte]
      exact setS_store (fun b s₁ Q' q => gw b q) R.at_ R.data hb1 (ks' := ks ++ [k]) (mk _ f1 r1 rfl) fun h' sb r => wpAny_pure (hQ true h' sb r)
theorem setS_fresh {h : Heap} (ho : h.get? a = some { cls := .type "set", dict := none, data := .set #[] 0 (.fresh 0 0 (!w.params.followText "set-order")) }) : SetSX P w h a [] :=
  ⟨_, #[], 0, _, { at_ := ho, exact_ := ⟨rfl, rfl, rfl⟩, data := rfl, good := fun e he => by simp at he, nodup := by simp, mem := fun k => by simp, few := Nat.le_refl _, fits := by rfl, ris := List.Pairwise.nil, led := by cases q : w.params.followText "set-order" <;> simp [SetTable.fresh, q] }⟩
/-- the loop that takes a list's texts in -/
theorem setS_loop {I : Addr} {fp wr : List Addr} {G : Array GenState → Array GenState → Prop} {n : Nat} {Pv : Nat → Value → Prop} {St : Nat → Shared → Prop} {R : Result → Shared → Prop} (W : WalksS P w A.in1 I fp wr G n Pv St) (S : Addr) (hSf : S ∉ fp) (xs : List Str) (hn : n = xs.length) (hfew : xs.length < scanBound)
    (hval : ∀ i v, Pv i v → ∃ x t, xs[i]? = some x ∧ v = .str x t) : ∀ (k i : Nat) (s : Shared), n - i = k → i ≤ n → St i s → SetSX P w s.heap S (xs.take i) →
      (∀ s', Moved (S :: wr) G s s' → SetSX P w s'.heap S xs → R (.ok (.ret .none)) s') → codeAny (model P w) A (.builtin "set.update.loop" ⟨[.ref S, .ref I], []⟩) R s := by
  have hSw : S ∉ wr := fun h => hSf (W.sub _ h)
  have up : ∀ b ∈ wr, b ∈ S :: wr := fun b hb => List.mem_cons_of_mem _ hb
  intro k
  induction k with
  | zero =>
    intro i s hk hi hst hS hR
    have hin : i = n := by omega
    subst hin
    refine codeAny_builtin F.entry_set_update_loop ?_
    rw [Around.under_plainId F.plain_set_update_loop _]
    show wpAny _ A.in1 (pyNext (.ref I) >>= _) _ _ s
    refine wpAny_bind (W.done s _ _ hst fun s' hm => ?_)
    show wpAny _ A.in1 (ret Value.none) _ _ s'
    rw [hn, List.take_length] at hS
    exact wpAny_pure (hR s' (hm.mono up) (hS.keep fun o e => hm.heap S o hSw e))
  | succ k ih =>
    intro i s hk hi hst hS hR
    have hlt : i < n := by omega
    refine codeAny_builtin F.entry_set_update_loop ?_
    rw [Around.under_plainId F.plain_set_update_loop _]
    show wpAny _ A.in1 (pyNext (.ref I) >>= _) _ _ s
    refine wpAny_bind (W.item i s _ _ hlt hst fun v s' hP hst' hm => ?_)
    obtain ⟨x, tk, hx, rfl⟩ := hval i v hP
    have hS' : SetSX P w s'.heap S (xs.take i) := hS.keep fun o e => hm.heap S o hSw e
    show wpAny _ A.in1 (holding [Value.str x tk] (setAdd S (.str x tk)) >>= _) _ _ s'
    refine wpAny_bind (wpAny_holding ?_)
    unfold setAdd
    refine wpAny_holding (wpAny_bind ((PySem.strKind P w).pyHash (k := x) (strKind_is _ _ _ _) ?_))
    refine setS_add (s := { s' with toks := s'.toks + 1 }) hS' (by rw [List.length_take]; omega) fun b h' sb hS2 => ?_
    have tk1 : xs.take i ++ [x] = xs.take (i + 1) := by rw [List.take_add_one, hx]; rfl
    rw [tk1] at hS2
    have off : ∀ b o, b ≠ S → s'.heap.get? b = some o → h'.get? b = some o := fun b o hb e => by rw [sb.2 b hb]; exact e
    refine wpAny_pure ⟨plainId_quiet F.plain_set_update_loop _, ih (i + 1) _ (by omega) hlt (W.frame _ s' _ _ hst' (Nat.le_succ _) fun b hb o e => off b o (fun h => hSf (h ▸ hb)) e) hS2 fun s'' hm'' hS'' => ?_⟩
    exact hR s'' (Moved.trans W.gtrans ((hm.mono up).then_heap (Nat.le_succ _) fun b o hb e => off b o (fun h => hb (by rw [h]; exact List.mem_cons_self)) e) hm'') hS''
/-- set(xs) of a list of texts -/
theorem call_set_texts {l : Addr} {items : Array Value} {xs : List Str} {Q : Value → Shared → Prop} (hh : A.handled = none) (hl : s.heap.IsList l items) (hi : StrsAre items.toList xs) (hfew : xs.length < scanBound)
    (h : ∀ (h' : Heap) (tk : Nat), SetSX P w h' s.heap.objs.size xs → (∀ b o, s.heap.get? b = some o → h'.get? b = some o) → Q (.ref s.heap.objs.size) { s with heap := h', toks := tk }) : wpAny (model P w) A (call (.type "set") [.ref l]) Q E s := by
  have size : items.size = xs.length := by rw [← StrsAre.length hi, Array.length_toList]
  let e0 : Obj := { cls := .type "set", dict := none, data := .set #[] 0 (.fresh 0 0 (!w.params.followText "set-order")) }
  obtain ⟨c, tl, hmro⟩ := F.called_set.mro
  have hmade := F.called_set.made
  have hsub := F.called_set.sub
  refine wpAny_call (codeAny_of_tree ?_)
  show wpAny _ _ (callAny (.type "set") _) _ _ _
  refine wpAny_pure ⟨Code.quiet_builtin _ (by decide +kernel), codeAny_builtin F.entry_type_call ?_⟩
  rw [Around.under_plain (weight_type_call_type "set" [.ref l] []) rfl]
  have h1 := F.called_set.notType
  have h2 := F.called_set.canCreate
  have hct := F.typeCall_set_1 (.ref l)
  repeat (any_goals (first | assumption | wp_step))
  refine codeAny_mono (code_set_led1 (.ref l) (E := E) (Q₁ := fun obj s₁ => obj = .ref s.heap.objs.size ∧ s₁ = { s with heap := s.heap.push e0 }) ⟨rfl, rfl⟩) fun r s₁ hr => ?_
  cases r with
  | error e => exact hr
  | ok fl =>
    cases fl with
    | ret obj =>
      obtain ⟨rfl, rfl⟩ := hr
      have hS : (s.heap.push e0).get? s.heap.objs.size = some e0 := Heap.get?_push_size _ rfl
      have hT : Shared.TypeIs { s with heap := s.heap.push e0 } (.ref s.heap.objs.size) "set" := ⟨_, hS, rfl⟩
      have hli := F.called_set.init.lookup
      have hbi := F.called_set.init.bind (.ref s.heap.objs.size)
      repeat (any_goals (first | assumption | wp_step))
      refine codeAny_mono (codeAny_call_builtin (R := wants (fun r s₂ => r = .none ∧ ∃ h' tk, s₂ = { s with heap := h', toks := tk } ∧ SetSX P w h' s.heap.objs.size xs ∧ ∀ b o, s.heap.get? b = some o → h'.get? b = some o) E) F.called_set.init.plain F.entry_set_init (check_set_init_1 hT ?_)) fun r₂ s₂ hr₂ => ?_
      · obtain ⟨ol, hol, hcl, nl, hdl⟩ := hl
        obtain ⟨ocls, odict, odata, oslots⟩ := ol
        simp only at hcl hdl
        subst hcl hdl
        have hol' : (s.heap.push e0).get? l = some { cls := .type "list", dict := odict, data := .seq items nl, slots := oslots } := Heap.get?_push_of_some _ hol
        have hsls := F.sub_list_set
        have hslf := F.sub_list_frozenset
        have hne : (Value.type "list" == Value.type "dict") = false := by decide
        have hl1 : (s.heap.push e0).IsList l items := ⟨_, hol', rfl, nl, rfl⟩
        unfold Builtin.«set.__init__» noKeywords Builtin.Frozenset.updateFrom
        generalize hPI : pyIter = PI
        wp_walk
        subst hPI
        refine wpAny_pyIter_list hl1 (wpAny_bind (wpAny_runValue ?_))
        have hlS : l < s.heap.objs.size := Heap.lt_size hol
        have calm : A.in1.in1.in1.handled = none := by simp [hh]
        have sz1 : (s.heap.push e0).objs.size = s.heap.objs.size + 1 := Heap.size_push ..
        have hneI : l ≠ (s.heap.push e0).objs.size := by rw [sz1]; exact Nat.ne_of_lt (Nat.lt_succ_of_lt hlS)
        have hSf : s.heap.objs.size ∉ [(s.heap.push e0).objs.size, l] := fun hm => by
          rcases List.mem_cons.mp hm with hm | hm
          · rw [sz1] at hm; exact absurd hm (Nat.ne_of_lt (Nat.lt_succ_self _))
          · exact absurd (List.mem_singleton.mp hm) (Nat.ne_of_gt hlS)
        have hval : ∀ (i : Nat) (v : Value), items[i]? = some v → ∃ x t, xs[i]? = some x ∧ v = .str x t := fun i v hv => by
          obtain ⟨t, e⟩ := SS.strs_at hi i v (by rw [Array.getElem?_toList]; exact hv)
          have hlt : i < xs.length := by rw [← size]; exact (Array.getElem?_eq_some_iff.mp hv).1
          exact ⟨xs[i], t, List.getElem?_eq_getElem hlt, by rw [e, List.getD_eq_getElem?_getD, List.getElem?_eq_getElem hlt]; rfl⟩
        refine setS_loop ((Walks.list calm _ l hneI items).toS) s.heap.objs.size hSf xs size hfew hval (items.size - 0) 0 _ (by omega) (Nat.zero_le _) ⟨⟨_, Heap.get?_push_size _ rfl, rfl, rfl⟩, (hl1.push _)⟩ ?_ fun s' hm hS' => ?_
        · exact setS_fresh (Heap.get?_push_of_some _ hS)
        · obtain ⟨h', g2, d', tk', os'⟩ := s'
          have eg : g2 = s.gens := hm.gens
          have ed : d' = s.drawn := hm.drawn
          have eo : os' = s.os := hm.os
          subst eg ed eo
          show wpAny _ _ _ _ _ _
          refine wpAny_pure ?_
          show wpAny _ _ (ret Value.none) _ _ _
          refine wpAny_pure ⟨rfl, h', tk', rfl, hS', fun b o e => hm.heap b o (fun hb => ?_) (Heap.get?_push_of_some _ (Heap.get?_push_of_some _ e))⟩
          have hlt := Heap.lt_size e
          rcases List.mem_cons.mp hb with hb | hb
          · exact absurd hb (Nat.ne_of_lt hlt)
          · have q := List.mem_singleton.mp hb
            rw [sz1] at q
            exact absurd q (Nat.ne_of_lt (Nat.lt_succ_of_lt hlt))
      · cases r₂ with
        | error e => exact hr₂
        | ok fl₂ =>
          cases fl₂ with
          | ret r =>
            obtain ⟨rfl, h', tk, rfl, hS', hk'⟩ := hr₂
            repeat (any_goals (first | assumption | wp_step))
            exact h _ _ hS' hk'
          | _ => exact hr₂.elim
    | _ => exact hr.elim
end
end Mini
/-! Mini, part ZE: sorted(set(texts)). -/
namespace Mini
open PySem PySem.Spec PyProof.Rows L2
section
variable {P : Program} {w : World} {A : Around} {E : Value → Shared → Prop} {s : Shared} {a : Addr} {ks : List Str}
/-- sorted of a set of texts -/
theorem sorted_texts {n : Nat} {Q : Value → Shared → Prop} (R : SetSX P w s.heap a ks) (hh : A.handled = none) (hlen : ks.length ≤ n) (hn : n < scanBound)
    (hQ : ∀ s' p (out : Array Value) (c : Nat) (ys : List Str), (∀ b o, s.heap.get? b = some o → s'.heap.get? b = some o) → s'.gens = s.gens → s'.os = s.os → s.heap.objs.size ≤ p → s'.heap.get? p = some (seqObj "list" out c) → StrsAre out.toList ys →
      sortedS ys = true → ys.Nodup → (∀ k, k ∈ ys ↔ k ∈ ks) → ys.length ≤ n → Q (.ref p) s') : wpAny (model P w) A (call (.builtin "sorted") [.ref a]) Q E s := by
  obtain ⟨o, es, ep, t, R⟩ := R
  have few := R.few
  refine Calls.call_function_entry kind_sorted plain_sorted entry_sorted (args_sorted1 _) ?_
  unfold Builtin.«sorted»
  refine wpAny_bind (m := checkCount "sorted" 1 1 _) (wpAny_pure ?_)
  refine wpAny_bind (collect_set (A := A.in1) hh ⟨o, R.at_, R.exact_.1, R.data⟩ R.fits (by omega) R.ris R.led fun s1 vs k1 hz g1 o1 pm => ?_)
  have len : vs.length = es.size := by rw [pm.length_eq, List.length_map, Array.length_toList]
  have line : scanBound ≤ sizeLine := by rw [sizeLine_eq]; unfold scanBound; omega
  have all : ∀ v ∈ vs, ∃ x tk, v = Value.str x tk := fun v hv => by
    obtain ⟨e, he, q⟩ := List.mem_map.mp (pm.mem_iff.mp hv)
    obtain ⟨k, tk, h1, _⟩ := R.good e he
    exact ⟨k, tk, by rw [← q]; exact h1⟩
  have hS : StrsAre vs (vs.map strOf) := strsAre_map vs all
  have pk : (vs.map strOf).Perm (es.toList.map keyS) := by
    have q := pm.map strOf
    rw [List.map_map] at q
    have e : List.map (strOf ∘ fun x => x.2) es.toList = es.toList.map keyS := List.map_congr_left fun e he => by
      obtain ⟨k, tk, h1, _⟩ := R.good e he
      simp only [Function.comp, keyS, h1, strOf]
    rw [e] at q
    exact q
  refine wpAny_bind (wpAny_newList ?_ (by omega))
  have hoL : (s1.heap.push (seqObj "list" vs.toArray 0)).get? s1.heap.objs.size = some (seqObj "list" vs.toArray 0) := Heap.get?_push_size _ rfl
  refine wpAny_bind (wpAny_holding (wpAny_call_entry slot_list_sort ⟨_, hoL, rfl⟩ entry_list_sort (list_sort_treeKAny strKind_oneLt hoL hS.keysOf (fun v₁ v₂ rest e => keyKind_strs (by rw [← e]; exact hS)) (by omega) fun st' hp hs => ⟨_, rfl, ?_⟩) (args_list_sort _)))
  obtain ⟨ys, g2, g3, g4⟩ := sorted_out_str hS hp hs
  obtain ⟨c, hc⟩ := sortedHeap_at (vs := vs) (out := (arrOf st').map (·.2)) hoL
  have pn : ys.Perm (es.toList.map keyS) := g3.trans pk
  refine wpAny_pure ⟨_, rfl, hQ _ s1.heap.objs.size _ c ys (fun b u e => ?_) g1 o1 hz hc g2 g4 (pn.nodup_iff.mpr R.nodup) (fun k => by rw [pn.mem_iff, R.mem k]) ?_⟩
  · have q := k1 b u e
    have hlt := Heap.lt_size q
    show (sortedHeap (s1.heap.push (seqObj "list" vs.toArray 0)) s1.heap.objs.size vs _).get? b = some u
    rw [sortedHeap_old (Nat.ne_of_lt hlt) (by rw [size_push']; exact Nat.lt_succ_of_lt hlt)]
    exact Heap.get?_push_of_some _ q
  · rw [pn.length_eq, List.length_map, Array.length_toList]; omega
end

/-! ### sorted(set(xs)) -/
section
variable {X : Cx}
def tSortSet (K : PySem.W.Frag) (ta : TE) : TE := fun σ H Q => ta σ H fun x H1 => ∃ (l : Addr) (xs : List Str), x = .ref l ∧ SqL K H1 l (xs.map V.str) ∧ xs.length < 4096 ∧
  ∀ (ys : List Str) (p : Addr), sortedS ys = true → ys.Nodup → (∀ k, k ∈ ys ↔ k ∈ xs) → H1 p = none → Q (.ref p) (upd H1 p (.lst (ys.map V.str)))
theorem pe_sortset {e : Expr} {ta : TE} {p1 p2 pos pos' : Pos} (hc : X.calm = true) (hg1 : Gl X "sorted") (hm1 : X.mg "sorted" = none) (hg2 : Gl X "set") (hm2 : X.mg "set" = none) (ha : PE X e ta) (na : starEach [e] X.env = (false, eval e X.env) :: starEach [] X.env)
    (nb : starEach [.Call (.Name "set" p2) [e] [] pos'] X.env = (false, eval (.Call (.Name "set" p2) [e] [] pos') X.env) :: starEach [] X.env) :
    PE X (.Call (.Name "sorted" p1) [.Call (.Name "set" p2) [e] [] pos'] [] pos) (tSortSet X.K ta) := by
  refine ⟨fun pins s σ H Q I h => Call_ (ld_blt I hg1 hm1 boot_sorted ?_)⟩
  refine PyProof.Rows.callWith_builtin1 (PyProof.Rows.args_cons ?_ nb) nb rfl
  refine Call_ (ld_blt I hg2 hm2 boot_set (PyProof.Rows.callWith_type1 (PyProof.Rows.args_cons (thn (ha.run pins s σ H _ I h) fun v s1 ⟨x, H1, I1, r1, l, xs, ex, hq, hz, q1⟩ => PyProof.Rows.args_nil ?_) na) na rfl))
  subst ex
  cases r1
  obtain ⟨its, rv, pl, _⟩ := I1.list hq
  have main : ∀ s2 : Shared, Inv X pins σ H1 s2 → SetSX X.prog X.w s2.heap s1.heap.objs.size xs → wpAny (model X.prog X.w) X.A (call (.builtin "sorted") [.ref s1.heap.objs.size]) (EP X pins σ Q) X.xe s2 := ?_
  · exact call_set_texts (I1.ok.hd hc) pl.isList (by simpa using strsAre_of rv) (by unfold scanBound; omega) fun h' tk hS hk => PyProof.Rows.args_nil (main _ (I1.kept hk) hS)
  intro s2 I2 hS
  refine sorted_texts hS (I2.ok.hd hc) (Nat.le_refl _) (by unfold scanBound; omega) fun s' p out c ys k g o hp hob hi hs hnd hmem hlen => ?_
  have hn : H1 p = none := I2.hok.fresh hp
  have line : (ys.map V.str).length ≤ sizeLine := by rw [List.length_map, sizeLine_eq]; omega
  have J : Inv X pins σ (upd H1 p (.lst (ys.map V.str))) { s2 with heap := s'.heap, gens := s'.gens, drawn := s'.drawn, toks := s'.toks } :=
    I2.call (ch := []) (Un.laid k hp hn) (I2.hok.laid k hp ⟨line, out.toList, c, vals_of_strs hi, hob⟩) (by rw [g]; exact I2.bare) (fun _ z => nomatch z)
  have e : s' = { s2 with heap := s'.heap, gens := s'.gens, drawn := s'.drawn, toks := s'.toks } := by
    obtain ⟨h2, g2, d2, t2, o2⟩ := s'
    have o' : o2 = s2.os := o
    subst o'
    rfl
  rw [e]
  exact ⟨.ref p, _, J, rfl, q1 ys p hs hnd hmem hn⟩
end
end Mini
/-! Mini, part ZF: sorted(set(texts)), by the language. -/
namespace Mini
open PySem L2

theorem dedup_mem {k : Cs} : ∀ {l : List Cs}, k ∈ dedup l ↔ k ∈ l
  | [] => by simp [dedup]
  | x :: r => by
    unfold dedup
    split
    · rename_i h
      rw [dedup_mem (l := r), List.mem_cons]
      exact ⟨.inr, fun q => q.elim (fun e => by rw [e]; simpa using h) id⟩
    · rw [List.mem_cons, List.mem_cons, dedup_mem (l := r)]
theorem dedup_nodup : ∀ {l : List Cs}, (dedup l).Nodup
  | [] => by simp [dedup]
  | x :: r => by
    unfold dedup
    split
    · exact dedup_nodup
    · rename_i h
      exact List.nodup_cons.mpr ⟨fun q => h (by simpa using dedup_mem.mp q), dedup_nodup⟩
theorem same_sorted : ∀ {l m : List Str}, l.Pairwise (fun a b => ¬ b.cps.toList < a.cps.toList) → m.Pairwise (fun a b => ¬ b.cps.toList < a.cps.toList) → l.Nodup → m.Nodup → (∀ k, k ∈ l ↔ k ∈ m) → l = m
  | [], [], _, _, _, _, _ => rfl
  | [], y :: m, _, _, _, _, h => by have := (h y).mpr (by simp); simp at this
  | x :: l, [], _, _, _, _, h => by have := (h x).mp (by simp); simp at this
  | x :: l, y :: m, s1, s2, n1, n2, h => by
    obtain ⟨a1, a2⟩ := List.pairwise_cons.mp s1
    obtain ⟨b1, b2⟩ := List.pairwise_cons.mp s2
    obtain ⟨c1, c2⟩ := List.nodup_cons.mp n1
    obtain ⟨d1, d2⟩ := List.nodup_cons.mp n2
    have e : x = y := by
      by_cases e : x = y
      · exact e
      · have hx : x ∈ m := (List.mem_cons.mp ((h x).mp (by simp))).resolve_left e
        have hy : y ∈ l := (List.mem_cons.mp ((h y).mpr (by simp))).resolve_left (Ne.symm e)
        have e2 : x.cps.toList = y.cps.toList := List.le_antisymm (List.not_lt.mp (a1 y hy)) (List.not_lt.mp (b1 x hx))
        cases x
        cases y
        simpa using e2
    subst e
    rw [same_sorted a2 b2 c2 d2 fun k => ⟨fun hk => (List.mem_cons.mp ((h k).mp (List.mem_cons_of_mem _ hk))).resolve_left fun e => c1 (e ▸ hk), fun hk => (List.mem_cons.mp ((h k).mpr (List.mem_cons_of_mem _ hk))).resolve_left fun e => d1 (e ▸ hk)⟩]
theorem set_uniq {ys : List Str} {x : List Cs} (hs : PyProof.Rows.sortedS ys = true) (hn : ys.Nodup) (hm : ∀ k, k ∈ ys ↔ k ∈ x.map toS) : ys = (sortCs (dedup x)).map toS := by
  refine same_sorted (sortedSpair hs) ?_ hn ?_ fun k => ?_
  · rw [List.pairwise_map]
    exact (sortCs_sorted (l := dedup x)).imp fun h => by simpa [toS] using h
  · exact List.Pairwise.map toS (fun a b ne e => ne (toS_inj e)) ((sortCs_perm (l := dedup x)).nodup_iff.mpr dedup_nodup)
  · rw [hm k, List.mem_map, List.mem_map]
    constructor
    · rintro ⟨a, ha, e⟩; exact ⟨a, (sortCs_perm (l := dedup x)).mem_iff.mpr (dedup_mem.mpr ha), e⟩
    · rintro ⟨a, ha, e⟩; exact ⟨a, dedup_mem.mp ((sortCs_perm (l := dedup x)).mem_iff.mp ha), e⟩
section
variable {Js : SP} {G : Gs} {W : WX} {X : Cx} {c : Ctx} {A : Adr}
theorem reps_strs {F : Addr → Prop} {H : Hp} : ∀ (l : List Cs), Reps G F H (l.map D.str) ((l.map toS).map V.str)
  | [] => .nil
  | a :: l => .cons (by simp only [Rep]) (reps_strs l)
theorem bw_sortset {pe : Expr} {e : E} {p1 p2 pos pos' : Pos} (hG : G = ⟨X.K, A.ca, A.fa⟩) (hc : X.calm = true) (hg1 : Gl X "sorted") (hm1 : X.mg "sorted" = none) (hg2 : Gl X "set") (hm2 : X.mg "set" = none) (ha : PE X pe (tM Js G W (RlA G) (argM e (ev c e)))) (na : starEach [pe] X.env = (false, eval pe X.env) :: starEach [] X.env)
    (nb : starEach [.Call (.Name "set" p2) [pe] [] pos'] X.env = (false, eval (.Call (.Name "set" p2) [pe] [] pos') X.env) :: starEach [] X.env) :
    PE X (.Call (.Name "sorted" p1) [.Call (.Name "set" p2) [pe] [] pos'] [] pos) (tE Js G W (ev c (.prim .sortset [e]))) :=
  bw_prim1 (r := fun x H1 Q => ∃ (l : Addr) (xs : List Str), x = .ref l ∧ SqL X.K H1 l (xs.map V.str) ∧ xs.length < 4096 ∧ ∀ (ys : List Str) (p : Addr), PyProof.Rows.sortedS ys = true → ys.Nodup → (∀ k, k ∈ ys ↔ k ∈ xs) → H1 p = none → Q (.ref p) (upd H1 p (.lst (ys.map V.str)))) rfl
    (pe_sortset hc hg1 hm1 hg2 hm2 ha na nb) fun σ F H d v res Q al hp r pp => by
    cases d <;> simp only [prim] at hp <;> first | (cases hp; done) | skip
    rename_i ds
    cases e : strsOf ds with
    | none => rw [e] at hp; cases hp
    | some x =>
      rw [e] at hp
      obtain ⟨g, hp⟩ := guardR_eq hp
      have e1 : res = .ok (.own (.lst ((sortCs (dedup x)).map .str))) := (Option.some.inj hp).symm
      subst e1
      obtain ⟨a, vs, rfl, q, rs⟩ := rep1_lst hG r
      refine ⟨a, x.map toS, rfl, by rw [← strs_of rs e]; exact q, by simpa using g, fun ys p hs hn hm hq => ?_⟩
      rw [set_uniq hs hn hm]
      exact pp.lst al (reps_strs _) p hq
end
end Mini
/-! Mini, part ZG: the rules in short, with what a text settles by itself. -/
namespace Mini
open PySem L2

section
variable {X : Cx} {Js : SP} {G : Gs} {W : WX} {c : Ctx} {A : Adr} {x : Str} {pos pos' p1 p2 : Pos} {a b e : E} {pa pb pe : Expr} {pes : List Expr} {es : List E}
theorem v_var (i : Nat) (hN : X.N[i]? = some x := by rfl) (hv : Vis X.env.scope x := by first | exact .inl rfl | exact .inr (.inl rfl) | exact .inr (.inr rfl)) (hd : (x == ("__debug__" : Str)) = false := by decide +kernel) (hcd : (x == ("__classdict__" : Str)) = false := by decide +kernel) :
    PE X (.Name x pos) (tE Js G W (ev c (.var i))) := by simp only [ev]; exact bw_var hN hv hd hcd
theorem v_mov (i : Nat) (hN : X.N[i]? = some x := by rfl) (hv : Vis X.env.scope x := by first | exact .inl rfl | exact .inr (.inl rfl) | exact .inr (.inr rfl)) (hd : (x == ("__debug__" : Str)) = false := by decide +kernel) (hcd : (x == ("__classdict__" : Str)) = false := by decide +kernel) :
    PE X (.Name x pos) (tE Js G W (ev c (.mov i))) := by simp only [ev]; exact bw_mov hN hv hd hcd
theorem v_loc (i : Nat) (hN : X.N[i]? = some x := by rfl) (hv : Vis X.env.scope x := by first | exact .inl rfl | exact .inr (.inl rfl) | exact .inr (.inr rfl)) (hd : (x == ("__debug__" : Str)) = false := by decide +kernel) (hcd : (x == ("__classdict__" : Str)) = false := by decide +kernel) :
    PE X (.Name x pos) (tM Js G W (RlA G) (argM (.loc i []) (ev c (.loc i [])))) := bw_loc hN hv hd hcd
theorem v_pk (i : Nat) (hN : X.N[i]? = some x := by rfl) (hv : Vis X.env.scope x := by first | exact .inl rfl | exact .inr (.inl rfl) | exact .inr (.inr rfl)) (hd : (x == ("__debug__" : Str)) = false := by decide +kernel) (hcd : (x == ("__classdict__" : Str)) = false := by decide +kernel) :
    PE X (.Name x pos) (tM Js G W (RlP G) (peekM c i [])) := bw_pk0 hN hv hd hcd
theorem v_pk1 (f : String) {i : Nat} {fs : List String} (FA : AttF X.K G c f) (h : PE X pe (tM Js G W (RlP G) (peekM c i fs))) (hx : x = Str.ofString f := by rfl) (hb : attributeBase pe x X.env (eval pe X.env) = eval pe X.env := by rfl) :
    PE X (.Attribute pe x pos) (tM Js G W (RlP G) (peekM c i (fs ++ [f]))) := bw_pk1 hx FA h hb
theorem v_attr (f : String) (FA : AttF X.K G c f) (h : PE X pe (tE Js G W (ev c e))) (hx : x = Str.ofString f := by rfl) (hb : attributeBase pe x X.env (eval pe X.env) = eval pe X.env := by rfl) :
    PE X (.Attribute pe x pos) (tE Js G W (ev c (.attr e f))) := bw_attr hx FA h hb
theorem v_int {i : Int} {j : Nat} : PE X (.Constant (.int i) j pos) (tE Js G W (ev c (.con (.int i)))) := by simp only [ev]; exact bw_int
theorem v_bl {i : Bool} {j : Nat} : PE X (.Constant (.bool i) j pos) (tE Js G W (ev c (.con (.bl i)))) := by simp only [ev]; exact bw_bl
theorem v_non {j : Nat} : PE X (.Constant .none j pos) (tE Js G W (ev c (.con .non))) := by simp only [ev]; exact bw_non
theorem v_str {s : Cs} {j : Nat} (h : x = toS s := by decide +kernel) : PE X (.Constant (.str x) j pos) (tE Js G W (ev c (.con (.str s)))) := by simp only [ev]; exact bw_str h
theorem v_glb {nm : String} {d : D} {v : V} {u : Value} (hm : X.mg x = some u) (hd : ∀ F H, Rep G F H d v) (r : RelV v u) (hc : c.const nm = some d := by rfl) (hg : Gl X x := by rfl) (hdb : (x == ("__debug__" : Str)) = false := by decide +kernel) : PE X (.Name x pos) (tE Js G W (ev c (.glb nm))) :=
  bw_glb hc hd hg hm r hdb
theorem v_glbS {nm : String} {s : Cs} (hm : ∃ u, X.mg x = some u ∧ RelV (.str (toS s)) u) (hc : c.const nm = some (.str s) := by rfl) (hg : Gl X x := by rfl) (hdb : (x == ("__debug__" : Str)) = false := by decide +kernel) : PE X (.Name x pos) (tE Js G W (ev c (.glb nm))) :=
  let ⟨_, hm, r⟩ := hm
  bw_glb (v := .str (toS s)) hc (fun _ _ => by simp only [Rep]) hg hm r hdb
theorem v_glbI {nm : String} {i : Int} (hm : ∃ u, X.mg x = some u ∧ RelV (.int i) u) (hc : c.const nm = some (.int i) := by rfl) (hg : Gl X x := by rfl) (hdb : (x == ("__debug__" : Str)) = false := by decide +kernel) : PE X (.Name x pos) (tE Js G W (ev c (.glb nm))) :=
  let ⟨_, hm, r⟩ := hm
  bw_glb (v := .int i) hc (fun _ _ => by simp only [Rep]) hg hm r hdb
/-- an argument by value -/
theorem v_a (h : PE X pe (tE Js G W (ev c e))) (hl : argM e (ev c e) = M.bind (ev c e) fun x => M.pure (.r x) := by rfl) : PE X pe (tM Js G W (RlA G) (argM e (ev c e))) := by rw [hl]; exact bw_argV h

/-! ### operators -/
theorem v_add (ha : PE X pa (tM Js G W (RlA G) (argM a (ev c a)))) (hb : PE X pb (tM Js G W (RlA G) (argM b (ev c b)))) (hG : G = ⟨X.K, A.ca, A.fa⟩ := by rfl) : PE X (.BinOp pa .Add pb pos) (tE Js G W (ev c (.prim .add [a, b]))) := bw_prim2 rfl rfl (pe_op (op_add_ok hG) ha hb) sound2
theorem v_sub (ha : PE X pa (tM Js G W (RlA G) (argM a (ev c a)))) (hb : PE X pb (tM Js G W (RlA G) (argM b (ev c b)))) : PE X (.BinOp pa .Sub pb pos) (tE Js G W (ev c (.prim .sub [a, b]))) := bw_prim2 rfl rfl (pe_op op_sub_ok ha hb) sound2
theorem v_mul (ha : PE X pa (tM Js G W (RlA G) (argM a (ev c a)))) (hb : PE X pb (tM Js G W (RlA G) (argM b (ev c b)))) : PE X (.BinOp pa .Mult pb pos) (tE Js G W (ev c (.prim .mul [a, b]))) := bw_prim2 rfl rfl (pe_op op_mul_ok ha hb) sound2
theorem v_fdiv (ha : PE X pa (tM Js G W (RlA G) (argM a (ev c a)))) (hb : PE X pb (tM Js G W (RlA G) (argM b (ev c b)))) : PE X (.BinOp pa .FloorDiv pb pos) (tE Js G W (ev c (.prim .fdiv [a, b]))) := bw_prim2 rfl rfl (pe_op op_fdiv_ok ha hb) sound2
theorem v_mod (ha : PE X pa (tM Js G W (RlA G) (argM a (ev c a)))) (hb : PE X pb (tM Js G W (RlA G) (argM b (ev c b)))) : PE X (.BinOp pa .Mod pb pos) (tE Js G W (ev c (.prim .mod [a, b]))) := bw_prim2 rfl rfl (pe_op op_mod_ok ha hb) sound2
theorem v_pow (ha : PE X pa (tM Js G W (RlA G) (argM a (ev c a)))) (hb : PE X pb (tM Js G W (RlA G) (argM b (ev c b)))) : PE X (.BinOp pa .Pow pb pos) (tE Js G W (ev c (.prim .pow [a, b]))) := bw_prim2 rfl rfl (pe_op op_pow_ok ha hb) sound2

/-- what a comparison answers -/
theorem ans_cmp {p : Pr} (hp : p = .eq ∨ p = .ne ∨ p = .lt ∨ p = .le ∨ p = .gt ∨ p = .ge ∨ p = .in_ ∨ p = .notin) (d y : D) (res : Rs R) (h : prim c p [d, y] = some res) : ∃ k, res = .ok (.d (.bl k)) := by
  have ofB : ∀ {o : Option Bool}, okB o = some res → ∃ k, res = .ok (.d (.bl k)) := fun h => by obtain ⟨k, _, rfl⟩ := okB_eq h; exact ⟨k, rfl⟩
  rcases hp with rfl | rfl | rfl | rfl | rfl | rfl | rfl | rfl <;> simp only [prim, cmpD] at h
  · exact ofB (guardR_eq h).2
  · exact ofB (guardR_eq h).2
  all_goals first | exact ofB h | (cases d <;> cases y <;> simp only at h <;> first | exact ofB h | cases h)
section
variable {op : CmpOp} {p : Pr}
theorem v_cmp (ho : OpR X (compareOp op) (rP G W c p)) (ha : PE X pa (tM Js G W (RlA G) (argM a (ev c a)))) (hb : PE X pb (tM Js G W (RlA G) (argM b (ev c b)))) (hm : behindInMarks op pb = false := by first | exact nobehind _ (by decide) (by decide) | rfl) :
    PE X (.Compare pa [op] [pb] pos) (tE Js G W (ev c (.prim p [a, b]))) := bw_prim2 rfl rfl (pe_cmpR ho ha hb hm) sound2
theorem t_cmp (hp : p = .eq ∨ p = .ne ∨ p = .lt ∨ p = .le ∨ p = .gt ∨ p = .ge ∨ p = .in_ ∨ p = .notin) (ho : OpR X (compareOp op) (rP G W c p)) (ha : PE X pa (tM Js G W (RlA G) (argM a (ev c a)))) (hb : PE X pb (tM Js G W (RlA G) (argM b (ev c b)))) (hm : behindInMarks op pb = false := by first | exact nobehind _ (by decide) (by decide) | rfl) :
    PT X (.Compare pa [op] [pb] pos) (tT Js G W (evt c (.tval (.prim p [a, b])))) := bt_cmp ho sound2 ha hb hm (ans_cmp hp)
end
theorem o_eq (hu : X.A.units + 65 < cLine) (hG : G = ⟨X.K, A.ca, A.fa⟩ := by rfl) : OpR X (compareOp .Eq) (rP G W c .eq) := op_eq_ok hG (by omega)
theorem o_ne (hu : X.A.units + 65 < cLine) (hG : G = ⟨X.K, A.ca, A.fa⟩ := by rfl) : OpR X (compareOp .NotEq) (rP G W c .ne) := op_ne_ok hG (by omega)
theorem o_in (hu : X.A.units + 65 < cLine) (hG : G = ⟨X.K, A.ca, A.fa⟩ := by rfl) : OpR X (compareOp .In) (rP G W c .in_) := op_in_ok hG hu
theorem o_notin (hu : X.A.units + 65 < cLine) (hG : G = ⟨X.K, A.ca, A.fa⟩ := by rfl) : OpR X (compareOp .NotIn) (rP G W c .notin) := op_notin_ok hG hu

/-! ### builtins of one argument -/
section
variable {id : String} {p : Pr}
theorem v_blt (hc : CallR X (.builtin id) (lP G W c p)) (hm : X.mg x = none) (ha : PA X (pe :: pes) (tM Js G W (RlAs G) (evs c es))) (hg : Gl X x := by rfl) (hv : bootBuiltins x = some (.builtin id) := by decide +kernel) (hn : x ≠ "__name__" := by decide +kernel) (hdb : (x == ("__debug__" : Str)) = false := by decide +kernel)
    (he : starEach (pe :: pes) X.env = (false, eval pe X.env) :: starEach pes X.env := by rfl) (hpl : (backTo pos (starEach pes X.env)).any (·.1) = false := by rfl) : PE X (.Call (.Name x p1) (pe :: pes) [] pos) (tE Js G W (ev c (.prim p es))) :=
  bw_primL rfl (pe_callB hc hg hm hv ha hn hdb he hpl) soundL
theorem v_bty (hc : CallR X (.type id) (lP G W c p)) (hm : X.mg x = none) (ha : PA X (pe :: pes) (tM Js G W (RlAs G) (evs c es))) (hg : Gl X x := by rfl) (hv : bootBuiltins x = some (.type id) := by decide +kernel) (hn : x ≠ "__name__" := by decide +kernel) (hdb : (x == ("__debug__" : Str)) = false := by decide +kernel)
    (he : starEach (pe :: pes) X.env = (false, eval pe X.env) :: starEach pes X.env := by rfl) (hpl : (backTo pos (starEach pes X.env)).any (·.1) = false := by rfl) : PE X (.Call (.Name x p1) (pe :: pes) [] pos) (tE Js G W (ev c (.prim p es))) :=
  bw_primL rfl (pe_callTy hc hg hm hv ha hn hdb he hpl) soundL
end
theorem v_asn : PA X [] (tM Js G W (RlAs G) (evs c [])) := bw_as_nil
theorem v_asc (h : PE X pe (tM Js G W (RlA G) (argM e (ev c e)))) (hr : PA X pes (tM Js G W (RlAs G) (evs c es))) (hs : starEach (pe :: pes) X.env = (false, eval pe X.env) :: starEach pes X.env := by rfl) : PA X (pe :: pes) (tM Js G W (RlAs G) (evs c (e :: es))) := bw_as_cons h hr hs
theorem v_isn : PA X [] (tM Js G W (RlI G) (evi c [])) := bw_is_nil
theorem v_isc (h : PE X pe (tE Js G W (ev c e))) (hr : PA X pes (tM Js G W (RlI G) (evi c es))) (hn : isStar e = false := by rfl) (hs : starEach (pe :: pes) X.env = (false, eval pe X.env) :: starEach pes X.env := by rfl) : PA X (pe :: pes) (tM Js G W (RlI G) (evi c (e :: es))) := bw_is_cons hn h hr hs
theorem v_iss (h : PE X pe (tM Js G W (RlA G) (argM e (ev c e)))) (hr : PA X pes (tM Js G W (RlI G) (evi c es))) (hG : G = ⟨X.K, A.ca, A.fa⟩ := by rfl) (hs : starEach (.Starred pe pos :: pes) X.env = (true, eval pe X.env) :: starEach pes X.env := by rfl) : PA X (.Starred pe pos :: pes) (tM Js G W (RlI G) (evi c (.star e :: es))) := bw_is_star hG h hr hs
theorem v_ix (hu : X.A.units + 65 < cLine) (ha : PE X pa (tM Js G W (RlA G) (argM a (ev c a)))) (hb : PE X pb (tM Js G W (RlA G) (argM b (ev c b)))) (hs : PlainIx pb := by exact fun _ _ => rfl) (hG : G = ⟨X.K, A.ca, A.fa⟩ := by rfl) :
    PE X (.Subscript pa pb pos) (tE Js G W (ev c (.prim .ix [a, b]))) := bw_ix hG (by omega) ha hb hs
/-! ### tests -/
theorem t_val (h : PE X pe (tE Js G W (ev c e))) (hG : G = ⟨X.K, A.ca, A.fa⟩ := by rfl) (hp : ∀ whole, isTrue pe X.env whole = (do let v ← whole; standAt pe.pos; holding [v] (truthy v)) := by intro _; rfl) : PT X pe (tT Js G W (evt c (.tval e))) := bt_val hG h hp
theorem t_loc {i : Nat} {fs : List String} (h : PE X pe (tM Js G W (RlA G) (argM (.loc i fs) (ev c (.loc i fs))))) (hG : G = ⟨X.K, A.ca, A.fa⟩ := by rfl) (hp : ∀ whole, isTrue pe X.env whole = (do let v ← whole; standAt pe.pos; holding [v] (truthy v)) := by intro _; rfl) : PT X pe (tT Js G W (evt c (.tloc i fs))) := bt_loc hG h hp
theorem v_isi {k : String} {cv : V} {u : Value} (FI : IsF X.K G c k u) (FO : InsF X.K G c) (hm : X.mg "isinstance" = none) (ha : PE X pa (tM Js G W (RlA G) (argM a (ev c a)))) (hk : PE X pb (tC cv)) (cl : ClsV cv u) (hG : G = ⟨X.K, A.ca, A.fa⟩ := by rfl) (hg : Gl X "isinstance" := by rfl)
    (he : starEach [pa, pb] X.env = (false, eval pa X.env) :: starEach [pb] X.env := by rfl) (he2 : starEach [pb] X.env = (false, eval pb X.env) :: starEach [] X.env := by rfl) (hpl : (backTo pos (starEach [pb] X.env)).any (·.1) = false := by rfl) :
    PE X (.Call (.Name "isinstance" p1) [pa, pb] [] pos) (tE Js G W (ev c (.prim (.isi [k]) [a]))) := bw_isi hG FI FO ha hk cl hg hm he he2 hpl
/-- a built-in class by its name -/
theorem v_ty {n : String} (hm : X.mg x = none) (hg : Gl X x := by rfl) (hv : bootBuiltins x = some (.type n) := by decide +kernel) (hn : x ≠ "__name__" := by decide +kernel) (hd : (x == ("__debug__" : Str)) = false := by decide +kernel) : PE X (.Name x pos) (tC (.ty n)) := pe_bltn hg hm hv rfl hn hd
theorem v_cl {C : Addr} (hm : X.mg x = some (.ref C)) (hg : Gl X x := by rfl) (hd : (x == ("__debug__" : Str)) = false := by decide +kernel) : PE X (.Name x pos) (tC (.ref C)) := pe_glob hg hm rfl hd
theorem v_chain {op op' : CmpOp} {p q : Pr} {pc : Expr} {d : E} (ho : OpR X (compareOp op) (rP G W c p)) (ho' : OpR X (compareOp op') (rP G W c q)) (ha : PE X pa (tE Js G W (ev c a))) (hb : PE X pb (tE Js G W (ev c b))) (hd : PE X pc (tE Js G W (ev c d))) (hm : lastMarks [op, op'] [pb, pc] = false := by rfl) :
    PE X (.Compare pa [op, op'] [pb, pc] pos) (tE Js G W (ev c (.chain p q a b d))) := bw_chain ho ho' ha hb hd hm
theorem v_not (ha : PE X pa (tM Js G W (RlA G) (argM a (ev c a)))) (hG : G = ⟨X.K, A.ca, A.fa⟩ := by rfl) : PE X (.UnaryOp .Not pa pos) (tE Js G W (ev c (.prim .not_ [a]))) := bw_not hG ha
theorem v_and {rest : List Expr} (ha : PE X pa (tE Js G W (ev c a))) (hb : PE X (.BoolOp .And (pb :: rest) pos) (tE Js G W (ev c b))) (hG : G = ⟨X.K, A.ca, A.fa⟩ := by rfl) : PE X (.BoolOp .And (pa :: pb :: rest) pos) (tE Js G W (ev c (.and_ a b))) := bw_and hG ha hb
theorem v_or {rest : List Expr} (ha : PE X pa (tE Js G W (ev c a))) (hb : PE X (.BoolOp .Or (pb :: rest) pos) (tE Js G W (ev c b))) (hG : G = ⟨X.K, A.ca, A.fa⟩ := by rfl) : PE X (.BoolOp .Or (pa :: pb :: rest) pos) (tE Js G W (ev c (.or_ a b))) := bw_or hG ha hb
theorem v_join {apos : Pos} {s : Cs} (ho : PE X pa (tE Js G W (ev c (.con (.str s))))) (he : PE X pe (tM Js G W (RlA G) (argM e (ev c e)))) (hG : G = ⟨X.K, A.ca, A.fa⟩ := by rfl) (hs : starEach [pe] X.env = [(false, eval pe X.env)] := by rfl)
    (hbase : attributeBase pa "join" X.env (eval pa X.env) = eval pa X.env := by rfl) (hline : (apos.endLine == pos.line) = true := by rfl) : PE X (.Call (.Attribute pa "join" apos) [pe] [] pos) (tE Js G W (ev c (.prim .join [.con (.str s), e]))) := bw_join hG ho he hs hbase hline
theorem v_fstr {v1 v2 : Expr} {rest : List Expr} (h : PJ X (v1 :: v2 :: rest) (es.map fun e => tE Js G W (ev c e))) (hn : ∀ e ∈ es, isStar e = false := by decide) : PE X (.JoinedStr (v1 :: v2 :: rest) pos) (tE Js G W (ev c (.fstr es))) := bw_fstr hn h
theorem v_dict1 {k v : E} (hu : X.A.units + 65 < cLine) (hk : PE X pa (tE Js G W (ev c k))) (hv : PE X pb (tE Js G W (ev c v))) (hs : isDstar k = false := by rfl) : PE X (.Dict [some pa] [pb] pos) (tE Js G W (ev c (.dict [k] [v]))) := bw_dict1 (by omega) hs hk hv
theorem v_sortset (hc : X.calm = true) (hm1 : X.mg "sorted" = none) (hm2 : X.mg "set" = none) (ha : PE X pe (tM Js G W (RlA G) (argM e (ev c e)))) (hG : G = ⟨X.K, A.ca, A.fa⟩ := by rfl) (hg1 : Gl X "sorted" := by rfl) (hg2 : Gl X "set" := by rfl) (na : starEach [pe] X.env = (false, eval pe X.env) :: starEach [] X.env := by rfl)
    (nb : starEach [.Call (.Name "set" p2) [pe] [] pos'] X.env = (false, eval (.Call (.Name "set" p2) [pe] [] pos') X.env) :: starEach [] X.env := by rfl) :
    PE X (.Call (.Name "sorted" p1) [.Call (.Name "set" p2) [pe] [] pos'] [] pos) (tE Js G W (ev c (.prim .sortset [e]))) := bw_sortset hG hc hg1 hm1 hg2 hm2 ha na nb
/-! ### walks -/
theorem w_val {tg : Expr} (h : PE X pe (tE Js G W (ev c e))) (hl : isLoc e = false := by rfl) (hd : dicSrc e = false := by rfl) (hG : G = ⟨X.K, A.ca, A.fa⟩ := by rfl) : PI X tg pe (tW Js G W (walkS e (ev c e))) := bw_walkV hG hl hd h
theorem w_loc {tg : Expr} (i : Nat) {m : M R} (hG : G = ⟨X.K, A.ca, A.fa⟩ := by rfl) (hN : X.N[i]? = some x := by rfl) (hv : Vis X.env.scope x := by first | exact .inl rfl | exact .inr (.inl rfl) | exact .inr (.inr rfl)) (hd : (x == ("__debug__" : Str)) = false := by decide +kernel) (hcd : (x == ("__classdict__" : Str)) = false := by decide +kernel) :
    PI X tg (.Name x pos) (tW Js G W (walkS (.loc i []) m)) := bw_walkL hG hN hv hd hcd
theorem w_rng {tg : Expr} (hm : X.mg "range" = none) (ha : PA X [pa] (tM Js G W (RlI G) (evi c [e]))) (hn : isStar e = false := by rfl) (hg : Gl X "range" := by rfl) (hs : starEach [pa] X.env = [(false, eval pa X.env)] := by rfl) :
    PI X tg (.Call (.Name "range" p1) [pa] [] pos) (tW Js G W (walkS (.range [e]) (ev c (.range [e])))) := bw_rng1 hn hg hm ha hs
theorem w_rng2 {tg : Expr} (hm : X.mg "range" = none) (ha : PA X [pa, pb] (tM Js G W (RlI G) (evi c [a, b]))) (hn : isStar a = false := by rfl) (hn' : isStar b = false := by rfl) (hg : Gl X "range" := by rfl) (hs : starEach [pa, pb] X.env = [(false, eval pa X.env), (false, eval pb X.env)] := by rfl) (hs2 : starEach [pb] X.env = [(false, eval pb X.env)] := by rfl) :
    PI X tg (.Call (.Name "range" p1) [pa, pb] [] pos) (tW Js G W (walkS (.range [a, b]) (ev c (.range [a, b])))) := bw_rng2 hn hn' hg hm ha hs hs2

theorem tok_loc {j : Nat} {fs : List String} {ρ ρ' : Env} {l : List D} {i : Nat} {d : D} (h : lockL j fs ρ = some (.ok (l, some (i, d)), ρ')) : i = j := by
  unfold lockL at h
  repeat' split at h
  all_goals first | (cases h; done) | (simp only [Option.some.injEq, Prod.mk.injEq, Rs.ok.injEq] at h; exact h.1.2.1.symm) | (simp at h; done)
theorem tok_of {src : E} {v : M R} (ρ : Env) (l : List D) (i : Nat) (d : D) (ρ' : Env) (h : walkS src v ρ = some (.ok (l, some (i, d)), ρ')) : i ∈ (fixC c src).fx := by
  cases src
  case loc j fs =>
    simp only [walkS] at h
    rw [tok_loc h]
    exact List.mem_cons_self ..
  all_goals
    exfalso
    simp only [walkS, M.bind, M.opt, M.pure] at h
    split at h
    · cases h
    · split at h
      · cases h
      · rename_i z
        split at z
        · cases z
        · simp only [Option.some.injEq, Prod.mk.injEq, Rs.ok.injEq] at z
          simp only [Option.some.injEq, Prod.mk.injEq, Rs.ok.injEq] at h
          exact absurd h.1.2 (by intro q; cases q)
      · simp at h
    · simp at h
/-! ### targets, statements -/
section
variable {t : T} {ptg : Expr} {fx : List Nat} {pb1 pb2 : List Stmt} {ss s2 : List S} {pos2 : Pos}
theorem g_v (i : Nat) (hN : X.N.Nodup) (hJ : JK Js c.fx := by exact JK.T) (hi : X.N[i]? = some x := by rfl) (hx : Loc X.env.scope x := by first | exact .inl rfl | exact .inr rfl) (hf : X.fn x = true ∨ X.env.scope.names.lookup x = some .local := by first | exact .inl rfl | exact .inr rfl) : PG X (.Name x pos) (tG Js G c (.v i)) := bg_name hJ hN hi hx hf
theorem g_t {ts : List T} {k : Nat} (hc : X.calm = true) (h : PGs X pes (tGs Js G c ts)) (hG : G = ⟨X.K, A.ca, A.fa⟩ := by rfl) (hl : pes.length = ts.length := by rfl) (hn : (assignEach pes X.env).length = pes.length := by rfl) (hst : (assignEach pes X.env).findIdx? (·.1) = none := by rfl) : PG X (.Tuple pes k pos) (tG Js G c (.t ts)) := bg_tup hG hc h hl hn hst
theorem g_n : PGs X [] (tGs Js G c []) := bgs_nil
theorem g_c {ts : List T} (h1 : PG X pe (tG Js G c t)) (h2 : PGs X pes (tGs Js G c ts)) (hs : (assignEach (pe :: pes) X.env).map (·.2) = assign pe X.env :: (assignEach pes X.env).map (·.2) := by rfl) : PGs X (pe :: pes) (tGs Js G c (t :: ts)) := bgs_cons h1 h2 hs
theorem s_set (i : Nat) (hN : X.N.Nodup) (he : PE X pe (tE Js G W (ev c e))) (hJ : JK Js c.fx := by exact JK.T) (hi : X.N[i]? = some x := by rfl) (hx : Loc X.env.scope x := by first | exact .inl rfl | exact .inr rfl) (hf : X.fn x = true ∨ X.env.scope.names.lookup x = some .local := by first | exact .inl rfl | exact .inr rfl) (hs : swapsWith pe (some (.Name x pos')) pos.line X.env = pure false := by rfl) :
    PS X (.Assign [.Name x pos'] pe pos) (tS Js G W c.fx (ex c (.asg (.v i) e))) := bs_setN hJ hN hi hx hf he hs
theorem s_asg (hg : PG X ptg (tG Js G c t)) (he : PE X pe (tE Js G W (ev c e))) (hs : swapsWithSole [ptg] pe pos.line X.env = pure false := by rfl) (hw : swappedStores [ptg] pe X.env = pure none := by rfl) (h1 : (assignEach [ptg] X.env).map (·.2) = [assign ptg X.env] := by rfl) :
    PS X (.Assign [ptg] pe pos) (tS Js G W c.fx (ex c (.asg t e))) := bs_asg he hg hs hw h1
theorem s_ex (h : PE X pe (tE Js G W (ev c e))) (hs : swapsWith pe none pos.line X.env = pure false := by rfl) : PS X (.Expr pe pos) (tS Js G W fx (ex c (.expr e))) := bs_expr h hs
theorem s_sub (i : Nat) {k : E} {ppos : Pos} (hu : X.A.units + 65 < cLine) (hk : PE X pa (tE Js G W (ev c k))) (he : PE X pe (tE Js G W (ev c e))) (hG : G = ⟨X.K, A.ca, A.fa⟩ := by rfl) (hN : X.N[i]? = some x := by rfl) (hv : Vis X.env.scope x := by first | exact .inl rfl | exact .inr (.inl rfl) | exact .inr (.inr rfl)) (hd : (x == ("__debug__" : Str)) = false := by decide +kernel) (hcd : (x == ("__classdict__" : Str)) = false := by decide +kernel)
    (ha : ∀ v, assign (.Subscript (.Name x ppos) pa pos') X.env v = (do
      let ov ← holding [v] (eval (.Name x ppos) X.env)
      let iv ← holding [v, ov] (eval pa X.env)
      standAt pos'
      holding [v, ov, iv] (setItem ov iv v)
      release [v, ov, iv] []) := by intro _; rfl)
    (hs : swapsWithSole [.Subscript (.Name x ppos) pa pos'] pe pos.line X.env = pure false := by rfl) (hw : swappedStores [.Subscript (.Name x ppos) pa pos'] pe X.env = pure none := by rfl) (h1 : (assignEach [.Subscript (.Name x ppos) pa pos'] X.env).map (·.2) = [assign (.Subscript (.Name x ppos) pa pos') X.env] := by rfl) :
    PS X (.Assign [.Subscript (.Name x ppos) pa pos'] pe pos) (tS Js G W fx (ex c (.sub i [] k e))) := bs_sub hG (by omega) hN hv hd hcd hk he ha hs hw h1
theorem s_fld (i : Nat) {x0 : Str} (f : String) {ppos : Pos} (FA : AttF X.K G c f) (he : PE X pe (tE Js G W (ev c e))) (hf : x0 = Str.ofString f := by rfl) (hN : X.N[i]? = some x := by rfl) (hv : Vis X.env.scope x := by first | exact .inl rfl | exact .inr (.inl rfl) | exact .inr (.inr rfl)) (hd : (x == ("__debug__" : Str)) = false := by decide +kernel) (hcd : (x == ("__classdict__" : Str)) = false := by decide +kernel)
    (hs : swapsWith pe (some (.Attribute (.Name x ppos) x0 pos')) pos.line X.env = pure false := by rfl) : PS X (.Assign [.Attribute (.Name x ppos) x0 pos'] pe pos) (tS Js G W fx (ex c (.fld i [] f e))) := bs_fld hf FA hN hv hd hcd he hs
theorem s_for {src : E} {pit : Expr} (hp : PassesOwn (model X.prog X.w) X.A X.env X.xe) (hc : X.calm = true) (hi : PI X ptg pit (tW Js G W (walkS src (ev c src)))) (hg : PG X ptg (tG Js G (fixC c src) t)) (hb : PSs X pb1 (tS Js G W (fixC c src).fx (exs (fixC c src) ss))) (hq : dicSrc src = false := by rfl) (hs : ∀ x, foldedSetIterable pit X.env x = pure x := by intro _; rfl) : PS X (.For ptg pit pb1 [] pos) (tS Js G W c.fx (ex c (.for_ t src ss))) := bs_for hp hc hq hi hg hb hs tok_of
theorem s_forD (i : Nat) (hp : PassesOwn (model X.prog X.w) X.A X.env X.xe) (hc : X.calm = true) (hg : PG X ptg (tG Js G c t)) (hb : PSs X pb1 (tS Js G WN c.fx (exs c ss))) (hN : X.N[i]? = some x := by rfl) (hv : Vis X.env.scope x := by first | exact .inl rfl | exact .inr (.inl rfl) | exact .inr (.inr rfl)) (hd : (x == ("__debug__" : Str)) = false := by decide +kernel) (hcd : (x == ("__classdict__" : Str)) = false := by decide +kernel)
    (hs : ∀ y, foldedSetIterable (.Name x pos') X.env y = pure y := by intro _; rfl) : PS X (.For ptg (.Name x pos') pb1 [] pos) (tS Js G W c.fx (ex c (.for_ t (.dkeys i) ss))) := bs_forD hp hc hN hv hd hcd hg hb hs
end
end
end Mini
/-! Mini, part ZH: what a def leans on, level by level; calls in short. -/
namespace Mini
open PySem L2

/-- what the defs of level n + 1 lean on -/
def ctxN (P : Pg) (fuel n : Nat) : Ctx :=
  { call := callN P fuel n, call1 := (match n with | 0 => fun _ _ => none | m + 1 => callN P fuel m), has := fun g => (getFn g P.fns).isSome, cls := fun k => P.own.contains k, att := fun k f => P.own.contains k && (getFn (k ++ "." ++ f) P.fns).isNone, sub := fun k => getCls k P.cls,
    const := fun x => getF x P.cst, fx := [], exc := fun k => P.exc.contains k, xn := none, fuel := fuel }
theorem call1_eq {P : Pg} {fuel n : Nat} : (ctxN P fuel n).call1 = callN P fuel (n - 1) := by
  cases n with
  | zero => funext a b; rfl
  | succ m => rfl
theorem callN_eq {P : Pg} {fuel n : Nat} {nm : String} {fn : Fn} {rs : List R} (h : getFn nm P.fns = some fn) (hl : rs.length = fn.np) : callN P fuel (n + 1) nm rs = runFn (ctxN P fuel n) fn rs := by
  have e : rs.length + fn.dflt.length - fn.np = fn.dflt.length := by omega
  unfold callN
  simp only [h, e, List.drop_length, List.map_nil, List.append_nil, if_pos hl]
  rfl
theorem callN_no {P : Pg} {fuel n : Nat} {nm : String} {rs : List R} (h : getFn nm P.fns = none) : callN P fuel n nm rs = none := by
  cases n with
  | zero => rfl
  | succ n => unfold callN; simp only [h]
theorem fns_no {x : String} : ∀ {fns : List (String × Fn)}, (∀ p ∈ fns, p.1 ≠ x) → getFn x fns = none
  | [], _ => rfl
  | p :: r, h => by
    simp only [getFn]
    rw [if_neg (h p (by simp)), fns_no fun q hq => h q (by simp [hq])]
/-- the classes that have the method alone -/
theorem only_own {P : Pg} {m : String} {L : List String} (h : (P.fns.all fun p => !(m.toList.isSuffixOf p.1.toList) || L.any fun k => k ++ m == p.1) = true) (k : String) : k ∈ L ∨ getFn (k ++ m) P.fns = none := by
  by_cases hk : k ∈ L
  · exact .inl hk
  · refine .inr (fns_no fun p hp e => hk ?_)
    have q := List.all_eq_true.mp h p hp
    simp only [Bool.or_eq_true, Bool.not_eq_true', List.any_eq_true, beq_iff_eq] at q
    rcases q with q | ⟨k', h1, h2⟩
    · exfalso
      have : m.toList <:+ p.1.toList := ⟨k.toList, by rw [e, String.toList_append]⟩
      rw [← List.isSuffixOf_iff_suffix, q] at this
      cases this
    · have e2 : k'.toList ++ m.toList = k.toList ++ m.toList := by rw [← String.toList_append, ← String.toList_append, h2, e]
      have e3 := List.append_cancel_right e2
      rw [← String.toList_inj.mp e3]
      exact h1

section
variable {Pr' : Program} {w : World} {K : PySem.W.Frag} {mg : Str → Option Value} {base : Heap} {G : Gs} {P : Pg} {fuel n k : Nat} {nm : String} {fn : Fn} {x qual : Str} {st : Stmt} {f : Addr} {fd : FuncData} {N ps : List Str}
theorem def_okN (hget : getFn nm P.fns = some fn) (FU : Fun K x qual st f fd) (S : FnScope N ps (defScope st)) (hnp : fn.np = ps.length) (hns : fn.ns = N.length)
    (hbody : ∀ (X : Cx) (W : WX) (fx : List Nat), (∃ cdv A outer s H E, X = cxOf (L2.CX Pr' w) Pr' w K mg base N qual (defScope st) f cdv A outer s H E ∧ W = fun cls d _ H => E cls d H) → Room k X.A → Takes X W → PSs X (defBody st) (tS JT G W fx (exs { ctxN P fuel n with fx := fx } fn.body))) :
    FnOk Pr' w K mg base (L2.CX Pr' w) (k + 1) f fd ps (spN G (callN P fuel (n + 1) nm) fn.np) :=
  (def_ok (c := ctxN P fuel n) FU S hnp hns hbody).imp fun vs H Q E ⟨F, rs, fp, res, s, hl, hc, hp⟩ => ⟨F, rs, fp, res, s, hl, by dsimp only; rw [if_pos hl, ← callN_eq hget hl]; exact hc, hp⟩
theorem def_none {np : Nat} (FU : Fun K x qual st f fd) (S : FnScope N ps (defScope st)) : FnOk Pr' w K mg base (L2.CX Pr' w) (k + 1) f fd ps (spN G (callN P fuel 0 nm) np) :=
  FU.okX S (fun vs H Q E ⟨_, _, _, _, _, _, hc, _⟩ => nomatch hc) fun cdv A outer s H vs Q E hr ⟨_, _, _, _, _, _, hc, _⟩ => nomatch hc
end

section
variable {X : Cx} {Js : SP} {G : Gs} {W : WX} {c : Ctx} {A : Adr} {P : Pg} {fuel n l m : Nat} {x : Str} {nm : String} {f C : Addr} {fd : FuncData} {ps : List Str} {pos pos' p1 p2 apos : Pos} {pe po : Expr} {pes : List Expr} {es : List E}
theorem defF0 {cf : List R → Option (Rs R × List (Option R))} (FO : FnOk X.prog X.w X.K X.mg X.base (L2.CX X.prog X.w) l f fd ps (spN G cf m)) (kp : PySem.W.keepIn X.K (.ref f) = true) (B : Binds X.K fd ps []) : DefF X G cf l m f fd ps (spN G cf m) [] :=
  ⟨FO, kp, ⟨[], B, .nil⟩, ⟨cf, m, [], rfl, by simp, fun _ _ => by simp only [Reps], fun rs _ => by simp⟩⟩
theorem v_call (tk : Takes X W) (hr : Room l X.A) (FO : FnOk X.prog X.w X.K X.mg X.base (L2.CX X.prog X.w) l f fd ps (spN G (c.call nm) m)) (kp : PySem.W.keepIn X.K (.ref f) = true) (B : Binds X.K fd ps []) (hm : X.mg x = some (.ref f)) (ha : PA X (pe :: pes) (tM Js G W (RlAs G) (evs c es)))
    (hl : es.length = m := by rfl) (hg : Gl X x := by rfl) (hdb : (x == ("__debug__" : Str)) = false := by decide +kernel) (he : starEach (pe :: pes) X.env = (false, eval pe X.env) :: starEach pes X.env := by rfl) (hpl : (backTo pos (starEach pes X.env)).any (·.1) = false := by rfl) :
    PE X (.Call (.Name x p1) (pe :: pes) [] pos) (tE Js G W (ev c (.call nm es))) := bw_callD tk (defF0 FO kp B) hr hg hm hl ha hdb he hpl
theorem v_sta (tk : Takes X W) (hr : Room l X.A) (FO : FnOk X.prog X.w X.K X.mg X.base (L2.CX X.prog X.w) l f fd ps (spN G (c.call nm) m)) (kp : PySem.W.keepIn X.K (.ref f) = true) (B : Binds X.K fd ps []) (ho : PE X po (tC (.ref C))) (S : StaF X.K C x f) (ha : PA X (pe :: pes) (tM Js G W (RlAs G) (evs c es))) {pl : Sem Bool}
    (ht : eval (.Call (.Attribute po x apos) (pe :: pes) [] pos) X.env = (do
      let ov ← eval po X.env
      standAt apos.atName
      let (f, first) ← holding [ov] (getMethod ov x pl)
      callWith pos f first (backTo pos (starEach (pe :: pes) X.env)) (backToKw pos (keywordEach [] X.env))))
    (hl : es.length = m := by rfl) (he : starEach (pe :: pes) X.env = (false, eval pe X.env) :: starEach pes X.env := by rfl) (hpl : (backTo pos (starEach pes X.env)).any (·.1) = false := by rfl) :
    PE X (.Call (.Attribute po x apos) (pe :: pes) [] pos) (tE Js G W (ev c (.call nm es))) := bw_sta tk (defF0 FO kp B) hr ho S hl ha he hpl ht
theorem v_make {k : String} {imm : Bool} (tk : Takes X W) (hr : Room (l + 1) X.A) (FO : FnOk X.prog X.w X.K X.mg X.base (L2.CX X.prog X.w) l f fd ps (spN G (callN P fuel n (k ++ ".__init__")) (m + 1))) (kp : PySem.W.keepIn X.K (.ref f) = true) (B : Binds X.K fd ps []) (M : Mk X.K (G.ca k) f) (hm : X.mg x = some (.ref (G.ca k)))
    (h1 : c.call1 = callN P fuel n) (ha : PA X (pe :: pes) (tM Js G W (RlAs G) (evs c es))) (hl : es.length = m := by rfl) (hg : Gl X x := by rfl) (hdb : (x == ("__debug__" : Str)) = false := by decide +kernel) (he : starEach (pe :: pes) X.env = (false, eval pe X.env) :: starEach pes X.env := by rfl) (hpl : (backTo pos (starEach pes X.env)).any (·.1) = false := by rfl) :
    PE X (.Call (.Name x p1) (pe :: pes) [] pos) (tE Js G W (ev c (.make k imm es))) := bw_make rfl tk (defF0 (by rw [h1]; exact FO) kp B) M hr hg hm hl ha hdb he hpl
/-- str of own objects -/
theorem strF_of {L : List String} (h1 : c.call1 = callN P fuel n) (hL : (P.fns.all fun p => !(".__str__".toList.isSuffixOf p.1.toList) || L.any fun k => k ++ ".__str__" == p.1) = true)
    (h : ∀ k ∈ L, ∃ f fd ps, FnOk X.prog X.w X.K X.mg X.base (L2.CX X.prog X.w) l f fd ps (spN G (callN P fuel n (k ++ ".__str__")) 1) ∧ PySem.W.findIn X.K (.ref (G.ca k)) "__str__" = some (some (.ref f)) ∧ PySem.W.isFn X.K (.ref f) = true ∧ Binds X.K fd ps []) : StrF X G c l := fun k => by
  rw [h1]
  rcases only_own hL k with hk | hk
  · exact .inr (h k hk)
  · exact .inl fun rs => callN_no hk
theorem attF_of {K : PySem.W.Frag} {f : String} (h : ∀ k ∈ P.own, Cls K (G.ca k) ∧ NoAttr K (G.ca k) (Str.ofString f)) (hc : ∀ k, c.att k f = true → k ∈ P.own) : AttF K G c f := fun k hk => h k (hc k hk)
theorem att_own {f k : String} (h : (ctxN P fuel n).att k f = true) : k ∈ P.own := by
  simp only [ctxN, Bool.and_eq_true] at h
  exact List.contains_iff_mem.mp h.1
theorem cls_own {k : String} (h : (ctxN P fuel n).cls k = true) : k ∈ P.own := List.contains_iff_mem.mp h
theorem exc_own {k : String} (h : (ctxN P fuel n).exc k = true) : k ∈ P.exc := List.contains_iff_mem.mp h

/-! ### comprehensions -/
section
variable {pelt ptg pit ptg1 pit1 : Expr} {pifs pifs1 : List Expr} {scope : Scope} {elt src src2 : E} {t t2 : T} {cs cs2 : List E}
theorem v_lc (own : List (Str × Nat)) (hc : X.calm = true) (hN : X.N.Nodup) (hi : PI X ptg pit (tW JT G W (walkS src (ev c src))))
    (hg : ∀ (s : Shared) (H : Hp) (C : Addr) (cl : List (Str × Addr)) (fp : List Addr), PG (X.blk s H scope (compEnvC scope cl C X.env) fp) ptg (tG JT G c t)) (ht : ∀ (s : Shared) (H : Hp) (C : Addr) (cl : List (Str × Addr)) (fp : List Addr), PTs (X.blk s H scope (compEnvC scope cl C X.env) fp) pifs (tT JT G WN (evc c cs)))
    (he : ∀ (s : Shared) (H : Hp) (C : Addr) (cl : List (Str × Addr)) (fp : List Addr), PE (X.blk s H scope (compEnvC scope cl C X.env) fp) pelt (tE JT G WN (ev c elt))) (ok : BlkOk X.N X.env.scope scope own := by exact blkOk_by (by decide +kernel)) (hnd : (varsT t).Nodup := by decide) (hs : ∀ x, foldedSetIterable pit X.env x = pure x := by intro _; rfl) (hv : own.map (·.2) = varsT t := by rfl) :
    PE X (.ListComp pelt [⟨ptg, pit, pifs, 0⟩] scope pos) (tE JT G W (ev c (.lc elt t src cs))) := bw_lc hc hN hnd hi ok hg ht he hs hv
theorem v_lcD (own : List (Str × Nat)) (i : Nat) (hc : X.calm = true) (hN : X.N.Nodup)
    (hg : ∀ (s : Shared) (H : Hp) (C : Addr) (cl : List (Str × Addr)) (fp : List Addr), PG (X.blk s H scope (compEnvC scope cl C X.env) fp) ptg (tG JT G c t)) (ht : ∀ (s : Shared) (H : Hp) (C : Addr) (cl : List (Str × Addr)) (fp : List Addr), PTs (X.blk s H scope (compEnvC scope cl C X.env) fp) pifs (tT JT G WN (evc c cs)))
    (he : ∀ (s : Shared) (H : Hp) (C : Addr) (cl : List (Str × Addr)) (fp : List Addr), PE (X.blk s H scope (compEnvC scope cl C X.env) fp) pelt (tE JT G WN (ev c elt))) (hNx : X.N[i]? = some x := by rfl) (hvx : Vis X.env.scope x := by first | exact .inl rfl | exact .inr (.inl rfl) | exact .inr (.inr rfl)) (hd : (x == ("__debug__" : Str)) = false := by decide +kernel) (hcd : (x == ("__classdict__" : Str)) = false := by decide +kernel)
    (ok : BlkOk X.N X.env.scope scope own := by exact blkOk_by (by decide +kernel)) (hnd : (varsT t).Nodup := by decide) (hs : ∀ y, foldedSetIterable (.Name x pos') X.env y = pure y := by intro _; rfl) (hv : own.map (·.2) = varsT t := by rfl) :
    PE X (.ListComp pelt [⟨ptg, .Name x pos', pifs, 0⟩] scope pos) (tE JT G W (ev c (.lc elt t (.dkeys i) cs))) := bw_lcD hc hN hnd hNx hvx hd hcd ok hg ht he hs hv
theorem v_lc2 (own : List (Str × Nat)) (hc : X.calm = true) (hN : X.N.Nodup) (hi : PI X ptg pit (tW JT G W (walkS src (ev c src))))
    (hg : ∀ (s : Shared) (H : Hp) (C : Addr) (cl : List (Str × Addr)) (fp : List Addr), PG (X.blk s H scope (compEnvC scope cl C X.env) fp) ptg (tG JT G c t)) (ht : ∀ (s : Shared) (H : Hp) (C : Addr) (cl : List (Str × Addr)) (fp : List Addr), PTs (X.blk s H scope (compEnvC scope cl C X.env) fp) pifs (tT JT G WN (evc c cs)))
    (hi1 : ∀ (s : Shared) (H : Hp) (C : Addr) (cl : List (Str × Addr)) (fp : List Addr), PI (X.blk s H scope (compEnvC scope cl C X.env) fp) ptg1 pit1 (tW JT G WN (walkS src2 (ev c src2))))
    (hg1 : ∀ (s : Shared) (H : Hp) (C : Addr) (cl : List (Str × Addr)) (fp : List Addr), PG (X.blk s H scope (compEnvC scope cl C X.env) fp) ptg1 (tG JT G c t2)) (ht1 : ∀ (s : Shared) (H : Hp) (C : Addr) (cl : List (Str × Addr)) (fp : List Addr), PTs (X.blk s H scope (compEnvC scope cl C X.env) fp) pifs1 (tT JT G WN (evc c cs2)))
    (he : ∀ (s : Shared) (H : Hp) (C : Addr) (cl : List (Str × Addr)) (fp : List Addr), PE (X.blk s H scope (compEnvC scope cl C X.env) fp) pelt (tE JT G WN (ev c elt))) (ok : BlkOk X.N X.env.scope scope own := by exact blkOk_by (by decide +kernel)) (hl2 : isLoc src2 = false := by rfl)
    (hs : ∀ x, foldedSetIterable pit X.env x = pure x := by intro _; rfl) (hs1 : ∀ env x, foldedSetIterable pit1 env x = pure x := by intro _ _; rfl) (hv : own.map (·.2) = varsT t ++ varsT t2 := by rfl) :
    PE X (.ListComp pelt [⟨ptg, pit, pifs, 0⟩, ⟨ptg1, pit1, pifs1, 0⟩] scope pos) (tE JT G W (ev c (.lc2 elt t src cs t2 src2 cs2))) := bw_lc2 hc hN hl2 hi ok hg ht hi1 hg1 ht1 he hs hs1 hv
end
end
end Mini
/-! Mini, part ZI: {}, chains and "is None" where a test stands. -/
namespace Mini
open PySem L2

section
variable {X : Cx} {Js : SP} {G : Gs} {W : WX} {c : Ctx} {A : Adr} {pos : Pos}
theorem v_dict0 : PE X (.Dict [] [] pos) (tE Js G W (ev c (.dict [] []))) := by
  refine PE.weak pe_dnewK fun σ H Q ⟨F, ρ, fp, res, s, em, p⟩ q hq => ?_
  have e : res = (.ok (.own (.dic [])), ρ) := by
    simp only [ev, evm, evk, M.bind, M.pure, List.foldl_nil, Option.some.injEq] at em
    exact em.symm
  subst e
  refine p F fp (upd H q (.dK [])) (.ref q) [q] ((Aft.refl s).newO (o := .dK []) hq fun _ z => nomatch z) ?_
  simp only [RlV, SlR]
  exact ⟨q, rfl, rfl, .inl ⟨[], upd_same, by simp only [RepK]⟩⟩
/-- a test by a value that is True or False -/
theorem tval_bl {e : E} {σ : L2.St} {H : Hp} {Q : Bool → Hp → Prop} (hb : ∀ ρ r ρ', ev c e ρ = some (.ok r, ρ') → ∃ k, r = .d (.bl k)) (h : tT Js G W (evt c (.tval e)) σ H Q) : tE Js G W (ev c e) σ H fun v H' => ∃ k, v = .bl k ∧ Q k H' := by
  obtain ⟨F, ρ, fp, res, s, em, p⟩ := h
  simp only [evt, M.bind] at em
  cases he : ev c e ρ with
  | none => rw [he] at em; cases em
  | some z =>
    obtain ⟨r, ρ1⟩ := z
    refine ⟨F, ρ, fp, (r, ρ1), s, he, ?_⟩
    rw [he] at em
    cases r with
    | ex x =>
      simp only [Option.some.injEq] at em
      subst em
      exact p
    | ok r =>
      obtain ⟨k, rfl⟩ := hb _ _ _ he
      simp only [M.opt, R.val, Option.bind_some, truthD, Option.some.injEq] at em
      subst em
      intro F' fp' H' v f a rl
      simp only [RlV, SlR, Rep] at rl
      obtain ⟨rfl, rfl⟩ := rl
      exact ⟨k, rfl, p F' fp' H' k [] a ⟨rfl, rfl⟩⟩
theorem bind_ok {α β : Type} {m : M α} {k : α → M β} {ρ ρ' : Mini.Env} {r : β} (h : M.bind m k ρ = some (.ok r, ρ')) : ∃ a ρ1, m ρ = some (.ok a, ρ1) ∧ k a ρ1 = some (.ok r, ρ') := by
  unfold M.bind at h
  split at h
  · cases h
  · rename_i a ρ1 e
    exact ⟨a, ρ1, e, h⟩
  · simp at h
theorem chain_bl {p q : Pr} {a b d : E} (hp : p = .eq ∨ p = .ne ∨ p = .lt ∨ p = .le ∨ p = .gt ∨ p = .ge ∨ p = .in_ ∨ p = .notin) (hq : q = .eq ∨ q = .ne ∨ q = .lt ∨ q = .le ∨ q = .gt ∨ q = .ge ∨ q = .in_ ∨ q = .notin) (ρ : Mini.Env) (r : R) (ρ' : Mini.Env)
    (h : ev c (.chain p q a b d) ρ = some (.ok r, ρ')) : ∃ k, r = .d (.bl k) := by
  simp only [ev] at h
  obtain ⟨u, ρ1, _, h⟩ := bind_ok h
  obtain ⟨v, ρ2, _, h⟩ := bind_ok h
  obtain ⟨s, ρ3, _, h⟩ := bind_ok h
  split at h
  · obtain ⟨w, ρ4, _, h⟩ := bind_ok h
    simp only [M.lift] at h
    cases hw : prim c q [v.frz, w.frz] with
    | none => rw [hw] at h; cases h
    | some z =>
      rw [hw] at h
      simp only [Option.some.injEq, Prod.mk.injEq] at h
      obtain ⟨k, hk⟩ := ans_cmp hq _ _ _ hw
      rw [hk] at h
      exact ⟨k, by cases h.1; rfl⟩
  · simp only [M.pure, Option.some.injEq, Prod.mk.injEq, Rs.ok.injEq] at h
    exact ⟨_, h.1.symm⟩
  · cases h
theorem t_chain {op op' : CmpOp} {p q : Pr} {pa pb pc : Expr} {a b d : E} (hp : p = .eq ∨ p = .ne ∨ p = .lt ∨ p = .le ∨ p = .gt ∨ p = .ge ∨ p = .in_ ∨ p = .notin) (hq : q = .eq ∨ q = .ne ∨ q = .lt ∨ q = .le ∨ q = .gt ∨ q = .ge ∨ q = .in_ ∨ q = .notin)
    (ho : OpR X (compareOp op) (rP G W c p)) (ho' : OpR X (compareOp op') (rP G W c q)) (ha : PE X pa (tE Js G W (ev c a))) (hb : PE X pb (tE Js G W (ev c b))) (hd : PE X pc (tE Js G W (ev c d))) (hm : lastMarks [op, op'] [pb, pc] = false := by rfl) :
    PT X (.Compare pa [op, op'] [pb, pc] pos) (tT Js G W (evt c (.tval (.chain p q a b d)))) :=
  PT.weak (pt_chain ho ho' ha hb hd hm) fun σ H Q h => chain_imp (op := op) (op' := op') (tval_bl (chain_bl hp hq) h)
end
end Mini
namespace Mini
open PySem L2
theorem mem_c {g : String → Bool} {l : List String} {k : String} (h : g = fun k => l.contains k) (e : g k = true) : k ∈ l := by
  subst h
  exact List.contains_iff_mem.mp e
theorem att_c {P : Pg} {c : Mini.Ctx} {f : String} (h : c.att = fun k f => P.own.contains k && (getFn (k ++ "." ++ f) P.fns).isNone) (k : String) (e : c.att k f = true) : k ∈ P.own := by
  rw [h] at e
  simp only [Bool.and_eq_true] at e
  exact List.contains_iff_mem.mp e.1
theorem lt65 {k : Nat} {A : Around} (r : Room k A) : A.units + 65 < cLine := by have := r.un; omega
end Mini
namespace Mini
open PySem L2
section
variable {X : Cx} {G : Gs} {W : WX} {c : Mini.Ctx}
theorem lc_imp {t : T} {src elt : E} {cs : List E} {vs : List Nat} {σ : L2.St} {H : Hp} {Q : VK} (hnd : (varsT t).Nodup) (hv : vs = varsT t) (h : tE JT G W (ev c (.lc elt t src cs)) σ H Q) :
    tLc (tW JT G W (walkS src (ev c src))) (tG JT G c t) (tT JT G WN (evc c cs)) (tE JT G WN (ev c elt)) vs σ H Q := by
  obtain ⟨F, ρ, fp, res, s, e, p⟩ := h
  subst hv
  exact lc_of (wi := tW JT G W (walkS src (ev c src))) hnd s e p fun _ h => h
/-- x = [.. for .. in ..] on one line, x a local -/
theorem s_setLc (i : Nat) (own : List (Str × Nat)) {x : Str} {pelt ptg pit : Expr} {pifs : List Expr} {scope : Scope} {pos pos' py : Pos} {elt src : E} {t : T} {cs : List E} (hc : X.calm = true) (hN : X.N.Nodup) (hi : PI X ptg pit (tW JT G W (walkS src (ev c src))))
    (hg : ∀ (s : Shared) (H : Hp) (C : Addr) (cl : List (Str × Addr)) (fp : List Addr), PG (X.blk s H scope (compEnvC scope cl C X.env) fp) ptg (tG JT G c t)) (ht : ∀ (s : Shared) (H : Hp) (C : Addr) (cl : List (Str × Addr)) (fp : List Addr), PTs (X.blk s H scope (compEnvC scope cl C X.env) fp) pifs (tT JT G WN (evc c cs)))
    (he : ∀ (s : Shared) (H : Hp) (C : Addr) (cl : List (Str × Addr)) (fp : List Addr), PE (X.blk s H scope (compEnvC scope cl C X.env) fp) pelt (tE JT G WN (ev c elt))) (ok : BlkOk X.N X.env.scope scope own) (hnd : (varsT t).Nodup := by decide) (hs : ∀ x, foldedSetIterable pit X.env x = pure x := by intro _; rfl) (hv : own.map (·.2) = varsT t := by rfl)
    (hy : X.N[i]? = some x := by rfl) (hyl : X.env.scope.names.lookup x = some .local := by rfl) (hk : X.env.scope.kind = .function := by rfl) (hl : (py.line == pos.line) = true := by rfl) (ha : (scope.names.any fun (n, k) => n == x && (k == .local || k == .cell)) = false := by rfl) :
    PS X (.Assign [.Name x py] (.ListComp pelt [⟨ptg, pit, pifs, 0⟩] scope pos) pos') (tS JT G W c.fx (ex c (.asg (.v i) (.lc elt t src cs)))) :=
  PS.weak (ps_setLc hc hN hy hyl (sw_true hk hyl hl ha) hi ok hg ht he hs) fun D σ H h => lc_imp hnd hv (set_imp JK.T h)
end
end Mini
/-! Mini, part ZJ: the law's own call. -/
namespace Mini
open PySem L2

/-- law's promise: a list of at most m whole numbers comes in, True goes out -/
def spI (K : PySem.W.Frag) (m : Nat) : Sp := fun vs H Q _ => ∃ (a : Addr) (ns : List Int), vs = [.ref a] ∧ SqL K H a (ns.map V.int) ∧ ns.length ≤ m ∧ ∀ H', Q (.bl true) H'
theorem reps_ints {G : Gs} {F : Addr → Prop} {H : Hp} : ∀ (ns : List Int), Reps G F H (ns.map D.int) (ns.map V.int)
  | [] => by simp only [List.map_nil, Reps]
  | n :: r => by
    simp only [List.map_cons, Reps]
    exact ⟨_, _, rfl, by simp only [Rep], reps_ints r⟩
theorem law_of {P : Pg} {fuel n m k : Nat} {Pr' : Program} {w : World} {K : PySem.W.Frag} {mg : Str → Option Value} {base : Heap} {CX : CXT} {ca fa : String → Addr} {f : Addr} {fd : FuncData} {ps : List Str} {nm : String}
    (pl : ∀ ns : List Int, ns.length ≤ m → ∃ e, callN P fuel n nm [.d (.lst (ns.map D.int))] = some (.ok (.d (.bl true)), e)) (F : FnOk Pr' w K mg base CX k f fd ps (spN ⟨K, ca, fa⟩ (callN P fuel n nm) 1)) : FnOk Pr' w K mg base CX k f fd ps (spI K m) :=
  F.imp fun vs H Q E ⟨a, ns, hv, hS, hl, hQ⟩ => by
    subst hv
    obtain ⟨e, he⟩ := pl ns hl
    have fin : ∀ (G : Gs) (F : Addr → Prop) (fp : Nat → List Addr), Post JT G (fun cls d _ H => E cls d H) (RlV G) F fp H ([V.ref a].map some) (.ok (.d (.bl true)), e) Q := fun G F fp F' fp' H' v g _ rl => by
      simp only [RlV, SlR, Rep] at rl
      obtain ⟨_, rfl⟩ := rl
      exact hQ H'
    rcases hS with hS | hS
    · refine ⟨fun b => b = a, [.d (.lst (ns.map D.int))], fun _ => [], _, ⟨rfl, fun i r h => ?_, fun _ => .nil, fun _ _ _ h => by simp at h, fun _ _ h => by simp at h, fun b hb => ?_, trivial⟩, rfl, he, fin _ _ _⟩
      · cases i with
        | zero =>
          simp [getI] at h
          subst h
          refine ⟨.ref a, rfl, ?_⟩
          simp only [SlR, Rep]
          exact ⟨trivial, a, _, rfl, .inl ⟨rfl, st1_lst.mpr hS⟩, reps_ints ns⟩
        | succ i => simp [getI] at h
      · subst hb
        intro z
        have := st1_lst.mpr hS
        rw [z] at this
        cases this
    · refine ⟨fun _ => False, [.d (.lst (ns.map D.int))], fun _ => [], _, ⟨rfl, fun i r h => ?_, fun _ => .nil, fun _ _ _ h => by simp at h, fun _ _ h => by simp at h, fun b hb => hb.elim, trivial⟩, rfl, he, fin _ _ _⟩
      cases i with
      | zero =>
        simp [getI] at h
        subst h
        refine ⟨.ref a, rfl, ?_⟩
        simp only [SlR, Rep]
        exact ⟨trivial, a, _, rfl, .inr hS, reps_ints ns⟩
      | succ i => simp [getI] at h
/-- no exception leaves law -/
theorem no_out {P : Program} {w : World} {H : Hp} {s : Shared} {e : Value} {s' : Shared} (h : L2.CX P w [] H s (fun _ _ _ => False) e s') : False := by
  obtain ⟨_, _, _, _, _, _, _, _, _, _, _, _, z⟩ := h
  exact z
theorem law_walk {l : PySem.W.OpenLaw} {m k : Nat} {q : Program} {loose : List Str} {XP : (Str → Option Value) → Heap → Prop} {YP : World → Heap → Prop} {d : DefRec} {K : Params → PySem.W.Frag} {x : Str} (hn : l.most = some m) (hn2 : m ≤ sizeLine) (hdf : d.params.defaults = []) (hr : Room k callerA)
    (hY : ∀ (w : World) (h : Heap), YP w h → (K w.params).In h)
    (F : ∀ (w : World) (mg : Str → Option Value) (fa : Addr) (h : Heap), (K w.params).In h → h.Ns mainGlobals mg → mg d.name = some (.ref fa) →
      ∃ fd : FuncData, (∀ (s : Shared) (u : Value), BindsTo s fd ⟨[u], []⟩ [(x, u)]) ∧ ∀ base : Heap, (K w.params).In base → base.Ns mainGlobals mg → FnOk l.prog w (K w.params) mg base (L2.CX l.prog w) k fa fd [x] (spI (K w.params) m)) :
    PySem.W.WalkO q loose XP YP l.row.toRowW d [] (fun f vs => PySem.call f vs) :=
  L2.walk_of (n := m) (k := k) (x := x) (CX := fun w => L2.CX l.prog w) (sp := fun w => spI (K w.params) m) hn hn2 hdf hr hY F (fun _ _ a ns hl _ hS => ⟨a, ns, rfl, hS, hl, fun _ => rfl⟩) fun _ _ _ _ _ h => no_out h
end Mini
namespace Mini
open PySem L2
section
variable {K : PySem.W.Frag} {S T : Addr} {b : Bool}
/-- a class of the text against one of the text -/
theorem kit_ref (h2 : PySem.W.isClsIn K T = true) (h3 : PySem.W.typeIn K (.ref T) = some (.type "type")) (h4 : PySem.W.subIn K (.ref S) (.ref T) = some b) (hb : b = true ∨ S ≠ T) : PySem.W.kitOne K (.ref S) (.ref T) = some b := by
  have e2 : ((PySem.W.clsIn K T).isSome && PySem.W.typeIn K (.ref T) == some (.type "type")) = true := by
    have h2' : (PySem.W.clsIn K T).isSome = true := h2
    rw [h2', h3]
    rfl
  unfold PySem.W.kitOne
  by_cases e : S = T
  · subst e
    rcases hb with rfl | hb
    · exact if_pos (beq_self_eq_true _)
    · exact absurd rfl hb
  · rw [if_neg (by simpa using e)]
    unfold PySem.W.kitCls
    simp only
    rw [if_pos e2]
    exact h4
/-- a class of the text against a built-in one -/
theorem kit_own {t : String} (h : PySem.W.subIn K (.ref S) (.type t) = some b) (hm : PySem.W.kitMeta t = true := by decide +kernel) : PySem.W.kitOne K (.ref S) (.type t) = some b := by
  unfold PySem.W.kitOne
  rw [if_neg (by simp)]
  unfold PySem.W.kitCls
  simp only
  rw [if_pos hm]
  exact h
/-- does "except T" take an S -/
theorem exm_ref (h1 : PySem.W.subIn K (.ref T) (.type "BaseException") = some true) (h2 : PySem.W.isClsIn K T = true) (h3 : PySem.W.typeIn K (.ref T) = some (.type "type")) (h4 : PySem.W.subIn K (.ref S) (.ref T) = some b) : PySem.W.exmOne K (.ref S) (.ref T) = some b := by
  have e2 : ((PySem.W.clsIn K T).isSome && PySem.W.typeIn K (.ref T) == some (.type "type")) = true := by
    have h2' : (PySem.W.clsIn K T).isSome = true := h2
    rw [h2', h3]
    rfl
  unfold PySem.W.exmOne
  rw [if_pos (by rw [h1]; rfl)]
  unfold PySem.W.kitCls
  simp only
  rw [if_pos e2]
  exact h4
end
end Mini
namespace K03
open Mini
def l_is_name_1 : E :=
  .lc (.prim .in_ [(.loc 1 []), (.glb "LETTERS")]) (.v 1) (.var 0) []
-- 0 thing, 1 letter
def f_is_name : Fn :=
  { np := 1, ns := 2, dflt := [], body := [(.ife (.tor (.tnot (.tval (.prim (.isi ["str"]) [(.loc 0 [])]))) (.tnot (.tval (.chain .le .le (.con (.int 1)) (.prim .len [(.loc 0 [])]) (.glb "MOST_LETTERS"))))) [(.ret (.con (.bl false)))] []), (.ret (.prim .all [l_is_name_1]))] }
-- 0 value
def f_is_integer : Fn :=
  { np := 1, ns := 1, dflt := [], body := [(.ret (.and_ (.prim (.isi ["int"]) [(.loc 0 [])]) (.prim .not_ [(.prim (.isi ["bool"]) [(.loc 0 [])])])))] }
-- 0 value
def f_is_whole : Fn :=
  { np := 1, ns := 1, dflt := [], body := [(.ret (.and_ (.call "is_integer" [(.var 0)]) (.prim .ge [(.loc 0 []), (.con (.int 0))])))] }
def l_ordered_1 : S :=
  .for_ (.v 2) (.dkeys 0) [(.ife (.tval (.prim .gt [(.prim .ix [(.loc 0 []), (.loc 2 [])]), (.con (.int 0))])) [(.sub 1 [] (.fstr [(.prim .fmt [(.prim .sub [(.con (.int 9999)), (.prim .len [(.loc 2 [])])])]), (.con (.str [32])), (.prim .fmt [(.prim .join [(.con (.str [32])), (.loc 2 [])])])]) (.var 2))] [])]
def l_ordered_2 : E :=
  .lc (.prim .str [(.loc 3 [])]) (.v 3) (.dkeys 1) []
def l_ordered_3 : E :=
  .lc (.tup [(.prim .ix [(.loc 1 []), (.loc 3 [])]), (.prim .ix [(.loc 0 []), (.prim .ix [(.loc 1 []), (.loc 3 [])])])]) (.v 3) (.prim .sorted [l_ordered_2]) []
-- 0 found, 1 rows, 2 names, 3 row
def f_ordered : Fn :=
  { np := 1, ns := 4, dflt := [], body := [(.asg (.v 1) (.dict [] [])), l_ordered_1, (.ret (.prim .tuple [l_ordered_3]))] }
def l_Amount___init___1 : E :=
  .lc2 (.prim .str [(.loc 4 [])]) (.t [(.v 2), (.v 3)]) (.fld 0 ["sums"]) [] (.v 4) (.var 2) []
-- 0 self, 1 found, 2 names, 3 many, 4 name
def f_Amount___init__ : Fn :=
  { np := 2, ns := 5, dflt := [], body := [(.fld 0 [] "sums" (.call "ordered" [(.var 1)])), (.fld 0 [] "names" (.prim .tuple [(.prim .sortset [l_Amount___init___1])]))] }
-- 0 number
def f_Amount_of : Fn :=
  { np := 1, ns := 1, dflt := [], body := [(.ife (.tnot (.tval (.call "is_whole" [(.var 0)]))) [(.rse "InvalidAmount" [])] []), (.ret (.make "Amount" true [(.dict [(.tup [])] [(.var 0)])]))] }
-- 0 name
def f_Amount_named : Fn :=
  { np := 1, ns := 1, dflt := [], body := [(.ife (.tnot (.tval (.call "is_name" [(.var 0)]))) [(.rse "InvalidAmount" [])] []), (.ret (.make "Amount" true [(.dict [(.tup [(.var 0)])] [(.con (.int 1))])]))] }
def l_Amount___str___1 : E :=
  .lc (.call "summand_text" [(.var 1), (.var 2)]) (.t [(.v 1), (.v 2)]) (.fld 0 ["sums"]) []
-- 0 self, 1 names, 2 many
def f_Amount___str__ : Fn :=
  { np := 1, ns := 3, dflt := [], body := [(.ife (.tval (.prim .eq [(.fld 0 ["sums"]), (.tup [])])) [(.ret (.con (.str [48])))] []), (.ret (.prim .join [(.con (.str [43])), l_Amount___str___1]))] }
def l_summand_text_1 : E :=
  .lc (.prim .str [(.loc 3 [])]) (.v 3) (.var 0) []
-- 0 names, 1 many, 2 words, 3 name
def f_summand_text : Fn :=
  { np := 2, ns := 4, dflt := [], body := [(.asg (.v 2) l_summand_text_1), (.ret (.prim .join [(.con (.str [42])), (.ite (.tand (.tval (.prim .eq [(.loc 1 []), (.con (.int 1))])) (.tval (.prim .ne [(.loc 2 []), (.lst [])]))) (.var 2) (.lst [(.prim .str [(.loc 1 [])]), (.star (.loc 2 []))]))]))] }
-- 0 _law_script, 1 _law_k, 2 _law_cell, 3 _law_seed
def f__law_box : Fn :=
  { np := 2, ns := 4, dflt := [], body := [(.asg (.v 2) (.prim .add [(.prim .mul [(.con (.int 6007)), (.loc 1 [])]), (.con (.int 41))])), (.ife (.tval (.prim .lt [(.loc 1 []), (.prim .len [(.loc 0 [])])])) [(.asg (.v 2) (.prim .ix [(.loc 0 []), (.loc 1 [])]))] [(.ife (.tval (.prim .gt [(.prim .len [(.loc 0 [])]), (.con (.int 0))])) [(.asg (.v 2) (.prim .add [(.loc 2 []), (.prim .mul [(.prim .mod [(.prim .ix [(.loc 0 []), (.prim .mod [(.loc 1 []), (.prim .len [(.loc 0 [])])])]), (.con (.int 2147483629))]), (.con (.int 69491))])]))] [])]), (.asg (.v 3) (.prim .add [(.prim .mod [(.prim .add [(.prim .mul [(.prim .mod [(.loc 2 []), (.con (.int 2147483629))]), (.con (.int 48271))]), (.prim .mul [(.con (.int 40693)), (.loc 1 [])])]), (.con (.int 2147483629))]), (.con (.int 1))])), (.ret (.lst [(.prim .ix [(.lst [(.con (.int 0)), (.var 2)]), (.prim .int [(.prim .ge [(.loc 2 []), (.prim .pow [(.con (.int 10)), (.con (.int 18))])])])]), (.var 3), (.con (.int 0))]))] }
-- 0 _law_box_here, 1 _law_many, 2 _law_digit, 3 _law_one
def f__law_take : Fn :=
  { np := 2, ns := 4, dflt := [], body := [(.ife (.tval (.prim .gt [(.prim .ix [(.loc 0 []), (.con (.int 0))]), (.con (.int 0))])) [(.asg (.v 2) (.prim .mod [(.prim .ix [(.loc 0 []), (.con (.int 0))]), (.loc 1 [])])), (.sub 0 [] (.con (.int 0)) (.prim .fdiv [(.prim .ix [(.loc 0 []), (.con (.int 0))]), (.loc 1 [])])), (.ret (.mov 2))] []), (.sub 0 [] (.con (.int 2)) (.prim .add [(.prim .ix [(.loc 0 []), (.con (.int 2))]), (.con (.int 1))])), (.asg (.v 3) (.prim .mod [(.prim .mul [(.prim .add [(.prim .ix [(.loc 0 []), (.con (.int 1))]), (.prim .mul [(.con (.int 104711)), (.prim .ix [(.loc 0 []), (.con (.int 2))])])]), (.con (.int 69623))]), (.con (.int 2147483647))])), (.sub 0 [] (.con (.int 1)) (.prim .add [(.prim .mod [(.prim .add [(.prim .mul [(.loc 3 []), (.con (.int 48271))]), (.con (.int 30113))]), (.con (.int 2147483629))]), (.con (.int 1))])), (.ret (.prim .mod [(.prim .fdiv [(.prim .add [(.prim .mul [(.loc 3 []), (.con (.int 2147483647))]), (.prim .ix [(.loc 0 []), (.con (.int 1))])]), (.con (.int 8191))]), (.loc 1 [])]))] }
def l__law_word_1 : E :=
  .lc (.prim .ix [(.loc 1 []), (.call "_law_take" [(.loc 0 []), (.prim .ix [(.lst [(.con (.int 26)), (.con (.int 26)), (.con (.int 41))]), (.call "_law_take" [(.loc 0 []), (.con (.int 3))])])])]) (.v 2) (.range [(.call "_law_take" [(.loc 0 []), (.con (.int 7))])]) []
-- 0 _law_box_here, 1 _law_letters, 2 _law_k
def f__law_word : Fn :=
  { np := 1, ns := 3, dflt := [], body := [(.asg (.v 1) (.con (.str [97, 98, 99, 100, 101, 102, 103, 104, 105, 106, 107, 108, 109, 110, 111, 112, 113, 114, 115, 116, 117, 118, 119, 120, 121, 122, 65, 66, 90, 48, 57, 32, 95, 45, 43, 42, 40, 41, 44, 46, 10]))), (.ret (.prim .join [(.con (.str [])), l__law_word_1]))] }
-- 0 _law_box_here, 1 _law_some
def f__law_any : Fn :=
  { np := 1, ns := 2, dflt := [], body := [(.asg (.v 1) (.lst [(.prim .sub [(.call "_law_take" [(.loc 0 []), (.con (.int 7))]), (.con (.int 3))]), (.prim .sub [(.con (.int 0)), (.prim .pow [(.con (.int 10)), (.con (.int 20))])]), (.prim .sub [(.prim .pow [(.con (.int 10)), (.con (.int 30))]), (.con (.int 1))]), (.con (.bl true)), (.con (.bl false)), (.con .non), (.tup []), (.tup [(.con (.int 1))]), (.tup [(.con (.str [110]))]), (.con (.str [48])), (.con (.str [115, 116, 101, 112]))])), (.ret (.prim .ix [(.prim .add [(.loc 1 []), (.lst [(.call "_law_word" [(.loc 0 [])]), (.call "_law_word" [(.loc 0 [])]), (.call "_law_word" [(.loc 0 [])]), (.call "_law_take" [(.loc 0 []), (.prim .pow [(.con (.int 10)), (.con (.int 9))])])])]), (.call "_law_take" [(.loc 0 []), (.con (.int 15))])]))] }
def l__law_is_name_1 : E :=
  .lc (.var 1) (.v 1) (.var 0) [(.tval (.prim .notin [(.loc 1 []), (.con (.str [97, 98, 99, 100, 101, 102, 103, 104, 105, 106, 107, 108, 109, 110, 111, 112, 113, 114, 115, 116, 117, 118, 119, 120, 121, 122]))]))]
-- 0 _law_value, 1 _law_sign
def f__law_is_name : Fn :=
  { np := 1, ns := 2, dflt := [], body := [(.ife (.tor (.tnot (.tval (.prim (.isi ["str"]) [(.loc 0 [])]))) (.tor (.tval (.prim .lt [(.prim .len [(.loc 0 [])]), (.con (.int 1))])) (.tval (.prim .gt [(.prim .len [(.loc 0 [])]), (.con (.int 4))])))) [(.ret (.con (.bl false)))] []), (.ret (.prim .eq [l__law_is_name_1, (.lst [])]))] }
-- 0 _law_form, 1 _law_value, 2 _law_found, 3 e
def f__law_made : Fn :=
  { np := 2, ns := 4, dflt := [], body := [(.asg (.v 2) (.con .non)), (.tri [(.asg (.v 2) (.prim .str [(.ite (.tval (.prim .eq [(.loc 0 []), (.con (.str [111, 102]))])) (.call "Amount.of" [(.var 1)]) (.call "Amount.named" [(.var 1)]))]))] ["InvalidAmount"] (some 3) [(.asg (.v 2) (.tup [(.con (.str [114, 101, 102, 117, 115, 101, 100])), (.xis 3 ["AskError"]), (.xis 3 ["InvalidProgram"])]))]), (.ret (.mov 2))] }
def l_law_1 : S :=
  .for_ (.v 3) (.range [(.con (.int 8))]) [(.asg (.v 4) (.call "_law_any" [(.loc 2 [])])), (.asg (.v 5) (.and_ (.prim (.isi ["int"]) [(.loc 4 [])]) (.and_ (.prim .not_ [(.prim (.isi ["bool"]) [(.loc 4 [])])]) (.prim .ge [(.loc 4 []), (.con (.int 0))])))), (.asg (.v 6) (.tup [(.con (.str [114, 101, 102, 117, 115, 101, 100])), (.con (.bl true)), (.con (.bl false))])), (.ife (.tval (.prim .ne [(.call "_law_made" [(.con (.str [111, 102])), (.var 4)]), (.ite (.tloc 5 []) (.prim .str [(.loc 4 [])]) (.var 6))])) [(.ret (.con (.bl false)))] []), (.ife (.tval (.prim .ne [(.call "_law_made" [(.con (.str [110, 97, 109, 101, 100])), (.var 4)]), (.ite (.tval (.call "_law_is_name" [(.var 4)])) (.var 4) (.var 6))])) [(.ret (.con (.bl false)))] []), (.ife (.tor (.tval (.prim .ne [(.call "_law_made" [(.con (.str [111, 102])), (.con (.int 5))]), (.con (.str [53]))])) (.tval (.prim .ne [(.call "_law_made" [(.con (.str [110, 97, 109, 101, 100])), (.con (.str [110]))]), (.con (.str [110]))]))) [(.ret (.con (.bl false)))] [])]
def l_law_2 : S :=
  .for_ (.v 1) (.range [(.prim .max [(.con (.int 1)), (.prim .min [(.con (.int 3)), (.prim .len [(.loc 0 [])])])])]) [(.asg (.v 2) (.call "_law_box" [(.var 0), (.var 1)])), l_law_1]
-- 0 _law_script, 1 _law_k, 2 _law_box_here, 3 _law_turn, 4 _law_value, 5 _law_whole, 6 _law_refused
def f_law : Fn :=
  { np := 1, ns := 7, dflt := [], body := [l_law_2, (.ret (.con (.bl true)))] }
def pg : Pg := {
  fns := [("is_name", f_is_name), ("is_integer", f_is_integer), ("is_whole", f_is_whole), ("ordered", f_ordered), ("Amount.__init__", f_Amount___init__), ("Amount.of", f_Amount_of), ("Amount.named", f_Amount_named), ("Amount.__str__", f_Amount___str__), ("summand_text", f_summand_text), ("_law_box", f__law_box), ("_law_take", f__law_take), ("_law_word", f__law_word), ("_law_any", f__law_any), ("_law_is_name", f__law_is_name), ("_law_made", f__law_made), ("law", f_law)],
  cls := [("AskError", ["ValueError", "Exception", "BaseException"]), ("InvalidAmount", ["AskError", "ValueError", "Exception", "BaseException"]), ("InvalidProgram", ["AskError", "ValueError", "Exception", "BaseException"]), ("Open", ["AskError", "ValueError", "Exception", "BaseException"]), ("Amount", [])],
  cst := [("LETTERS", (.str [97, 98, 99, 100, 101, 102, 103, 104, 105, 106, 107, 108, 109, 110, 111, 112, 113, 114, 115, 116, 117, 118, 119, 120, 121, 122])), ("MOST_LETTERS", (.int 4))],
  own := ["Amount"],
  exc := ["AskError", "InvalidAmount", "InvalidProgram", "Open"] }
end K03
namespace K03
open Mini
/-- what a def at level n + 1 leans on, its fixed slots -/
def cx (n : Nat) (fx : List Nat) : Ctx := { ctxN pg 1000 n with fx := fx }
section
variable {n : Nat} {fx : List Nat}
@[simp] theorem cx_call : (cx n fx).call = callN pg 1000 n := rfl
@[simp] theorem cx_call1 : (cx n fx).call1 = callN pg 1000 (n - 1) := call1_eq
@[simp] theorem cx_fx : (cx n fx).fx = fx := rfl
@[simp] theorem cx_const : (cx n fx).const = fun x => getF x pg.cst := rfl
@[simp] theorem cx_has : (cx n fx).has = fun g => (getFn g pg.fns).isSome := rfl
@[simp] theorem cx_cls : (cx n fx).cls = fun k => pg.own.contains k := rfl
@[simp] theorem cx_att : (cx n fx).att = fun k f => pg.own.contains k && (getFn (k ++ "." ++ f) pg.fns).isNone := rfl
@[simp] theorem cx_sub : (cx n fx).sub = fun k => getCls k pg.cls := rfl
@[simp] theorem cx_exc : (cx n fx).exc = fun k => pg.exc.contains k := rfl
theorem callN_cx {nm : String} {fn : Fn} {rs : List R} (h : getFn nm pg.fns = some fn) (hl : rs.length = fn.np) : callN pg 1000 (n + 1) nm rs = match exs (cx n (lentIx 0 rs)) fn.body (rs.map some ++ List.replicate (fn.ns - fn.np) none) with
  | some (.ok (.rt r), e) => some (.ok r, outsOf rs e)
  | some (.ok .nx, e) => some (.ok (.d .non), outsOf rs e)
  | some (.ok _, _) => none
  | some (.ex x, e) => some (.ex x, outsOf rs e)
  | none => none := callN_eq h hl
end
/-- a comprehension, by its loop -/
theorem lc_eval {c : Ctx} {elt : E} {t : T} {src : E} {cs : List E} {ρ ρ1 ρ2 : Env} {x : R} {l r : List D} (hl : isLoc src = false) (hd : dicSrc src = false) (hsrc : ev c src ρ = some (.ok x, ρ1)) (hi : itemsN x.frz = some l)
    (hlc : lcF (fun d e => bindT c t (.d d) (maskE (varsT t) e)) (evc c cs) (M.bind (ev c elt) fun x => M.pure [x.frz]) l ρ1 = some (r, ρ2)) (hz : r.length ≤ sizeMax) : ev c (.lc elt t src cs) ρ = some (.ok (.own (.lst r)), restE (varsT t) ρ1 ρ2) := by
  have hw : walkS src (ev c src) ρ = some (.ok (l, none), ρ1) := by
    cases src <;> first | (cases hl; done) | (simp only [walkS, M.bind, hsrc, hd, Bool.false_eq_true, if_false, M.opt, hi, M.pure]; done) | (cases hd; done)
  simp only [ev, walkM, M.bind, hw, keepM, hlc, unlockL, M.opt, if_pos hz]
/-- a box of three whole numbers -/
abbrev B (b : Int × Int × Int) : R := .own (.lst [.int b.1, .int b.2.1, .int b.2.2])
theorem log8191 : Nat.log2 8191 = 12 := by decide
theorem take (n : Nat) (b : Int × Int × Int) (m : Int) (hm : 0 < m) (hz : m.natAbs.log2 < 9000) : ∃ r b', (0 ≤ r ∧ r < m) ∧
    callN pg 1000 (n + 1) "_law_take" [B b, .d (.int m)] = some (.ok (.d (.int r)), [some (B b'), some (.d (.int m))]) := by
  have e0 : getFn "_law_take" pg.fns = some f__law_take := rfl
  obtain ⟨a, s, t⟩ := b
  by_cases ha : 0 < a
  · refine ⟨a % m, (a / m, s, t), ⟨Int.emod_nonneg _ (by omega), Int.emod_lt_of_pos _ hm⟩, ?_⟩
    rw [callN_cx e0 rfl]
    simp [f__law_take, lentIx, isD, exs, ex, ev, evs, evt, evi, evc, argM, itemM, M.bind, M.pure, M.opt, M.lift, M.fail, M.quiet, argsD, argD, R.val, getL, getP, getI, putL, putP, modL, setAt, prim, arith, arithI, cmpD, okB, okd, okw, okS, guardR, truthD, bindT, bindTs, setSlot, R.frz, divOk, mulOk, powOk, moveI, shareL, outsOf, callM, takeA, giveA, walkS, walkM, keepM, maskE, restE, varsT, varsTs, dicSrc, isLoc, unlockL, itemsN, itemsD, itemsT, strsOf, quietIf, fixC, ofRange, isOne, inD, sizeMax, ixD, ixNat, ha, hm, hz]
  · let one := (s + 104711 * (t + 1)) * 69623 % 2147483647
    let s' := (one * 48271 + 30113) % 2147483629 + 1
    refine ⟨(one * 2147483647 + s') / 8191 % m, (a, s', t + 1), ⟨Int.emod_nonneg _ (by omega), Int.emod_lt_of_pos _ hm⟩, ?_⟩
    rw [callN_cx e0 rfl]
    simp [f__law_take, lentIx, isD, exs, ex, ev, evs, evt, evi, evc, argM, itemM, M.bind, M.pure, M.opt, M.lift, M.fail, M.quiet, argsD, argD, R.val, getL, getP, getI, putL, putP, modL, setAt, prim, arith, arithI, cmpD, okB, okd, okw, okS, guardR, truthD, bindT, bindTs, setSlot, R.frz, divOk, mulOk, powOk, moveI, shareL, outsOf, callM, takeA, giveA, walkS, walkM, keepM, maskE, restE, varsT, varsTs, dicSrc, isLoc, unlockL, itemsN, itemsD, itemsT, strsOf, quietIf, fixC, ofRange, isOne, inD, sizeMax, ixD, ixNat, ha, hm, hz, one, s', log8191]
theorem lcF_inv {bnd : D → Env → Option Env} {cnd : M Bool} {elt : M (List D)} (I : Env → Prop) (Q : D → Prop) : ∀ (l : List D),
    (∀ d e, d ∈ l → I e → ∃ e1 e2 x e3, bnd d e = some e1 ∧ cnd e1 = some (.ok true, e2) ∧ elt e2 = some (.ok [x], e3) ∧ I e3 ∧ Q x) →
    ∀ e, I e → ∃ r e4, lcF bnd cnd elt l e = some (r, e4) ∧ I e4 ∧ (∀ x ∈ r, Q x) ∧ r.length = l.length
  | [], _, e, h => ⟨[], e, rfl, h, by simp, rfl⟩
  | d :: l, hs, e, h => by
    obtain ⟨e1, e2, x, e3, h1, h2, h3, h4, h5⟩ := hs d e (by simp) h
    obtain ⟨r, e4, k1, k2, k3, k4⟩ := lcF_inv I Q l (fun d e hd => hs d e (by simp [hd])) e3 h4
    exact ⟨x :: r, e4, by simp [lcF, h1, h2, h3, k1], k2, by simpa using ⟨h5, k3⟩, by simp [k4]⟩
theorem nums_len : ∀ (a : Int) (n : Nat), (nums a n).length = n
  | _, 0 => rfl
  | a, n + 1 => by simp [nums, nums_len]
/-- the signs that a drawn text has -/
def Wd (w : Cs) : Prop := w.length ≤ 6 ∧ w.all (fun c => decide (c < 1114112)) = true
def lets : Cs := [97, 98, 99, 100, 101, 102, 103, 104, 105, 106, 107, 108, 109, 110, 111, 112, 113, 114, 115, 116, 117, 118, 119, 120, 121, 122, 65, 66, 90, 48, 57, 32, 95, 45, 43, 42, 40, 41, 44, 46, 10]
theorem join1 : ∀ (r : List D), (∀ x ∈ r, ∃ c : Nat, x = .str [c] ∧ c < 1114112) → ∃ l : List Cs, strsOf r = some l ∧ (l.map (·.length)).sum = r.length ∧ l.length = r.length ∧ (joinCs [] l).length = r.length ∧ (joinCs [] l).all (fun c => decide (c < 1114112)) = true
  | [], _ => ⟨[], rfl, rfl, rfl, rfl, rfl⟩
  | x :: r, h => by
    obtain ⟨c, rfl, hc⟩ := h x (by simp)
    obtain ⟨l, h1, h2, h3, h4, h5⟩ := join1 r fun x hx => h x (by simp [hx])
    refine ⟨[c] :: l, by simp [strsOf, h1], by simp [h2]; omega, by simp [h3], ?_, ?_⟩
    · cases l with
      | nil => simp at h3; simp [joinCs, ← h3]
      | cons y q => simp [joinCs, h4]
    · cases l with
      | nil => simp [joinCs, hc]
      | cons y q => simp only [joinCs]; simpa [hc] using h5
theorem arg_w1 (v : M R) : argM l__law_word_1 v = M.bind v fun x => M.pure (.r x) := rfl
theorem word (n : Nat) (b : Int × Int × Int) : ∃ w b', Wd w ∧ callN pg 1000 (n + 2) "_law_word" [B b] = some (.ok (.d (.str w)), [some (B b')]) := by
  have e0 : getFn "_law_word" pg.fns = some f__law_word := rfl
  obtain ⟨k, b1, hk, ht⟩ := take n b 7 (by decide) (by decide)
  have e7 : (cx (n + 1) [0]).call = callN pg 1000 (n + 1) := rfl
  obtain ⟨r, e4, h1, ⟨b4, x4, rfl⟩, h3, h4⟩ := lcF_inv (bnd := fun d e => bindT (cx (n + 1) [0]) (.v 2) (.d d) (maskE [2] e)) (cnd := evc (cx (n + 1) [0]) [])
      (elt := M.bind (ev (cx (n + 1) [0]) (.prim .ix [(.loc 1 []), (.call "_law_take" [(.loc 0 []), (.prim .ix [(.lst [(.con (.int 26)), (.con (.int 26)), (.con (.int 41))]), (.call "_law_take" [(.loc 0 []), (.con (.int 3))])])])])) fun x => M.pure [x.frz])
      (fun e => ∃ b x, e = [some (B b), some (.d (.str lets)), x]) (fun x => ∃ c : Nat, x = .str [c] ∧ c < 1114112) (nums 0 k.toNat) (by
    rintro d e _ ⟨b, x, rfl⟩
    obtain ⟨r1, b1, hr1, t1⟩ := take n b 3 (by decide) (by decide)
    have hm : ∃ m : Int, ixD (cx (n + 1) [0]) (.lst [.int 26, .int 26, .int 41]) (.int r1) = some (.ok (.d (.int m))) ∧ 0 < m ∧ m ≤ 41 := by
      have : r1 = 0 ∨ r1 = 1 ∨ r1 = 2 := by omega
      rcases this with rfl | rfl | rfl
      · exact ⟨26, rfl, by decide, by decide⟩
      · exact ⟨26, rfl, by decide, by decide⟩
      · exact ⟨41, rfl, by decide, by decide⟩
    obtain ⟨m, hm, m0, m1⟩ := hm
    obtain ⟨r2, b2, hr2, t2⟩ := take n b1 m m0 (by
      have : m.natAbs ≤ 41 := by omega
      have : m.natAbs.log2 < 6 := (Nat.log2_lt (by omega)).mpr (by omega)
      omega)
    have hc : ∃ c : Nat, ixD (cx (n + 1) [0]) (.str lets) (.int r2) = some (.ok (.d (.str [c]))) ∧ c < 1114112 := by
      obtain ⟨j, rfl⟩ : ∃ j : Nat, r2 = j := ⟨r2.toNat, by omega⟩
      have hj : j < 41 := by omega
      have : ∀ j : Fin 41, ∃ c : Nat, ixD (cx (n + 1) [0]) (.str lets) (.int (j.val : Int)) = some (.ok (.d (.str [c]))) ∧ c < 1114112 := by
        intro j
        refine ⟨lets[j.val]'j.isLt, ?_, ?_⟩
        · have h1 : ixNat lets.length (j.val : Int) = some j.val := by
            have : j.val < lets.length := j.isLt
            simp [ixNat, this]
          simp only [ixD, h1, Option.bind_some, List.getElem?_eq_getElem (show j.val < lets.length from j.isLt)]
          rfl
        · revert j
          decide
      exact this ⟨j, hj⟩
    obtain ⟨c, hc, hc2⟩ := hc
    refine ⟨[some (B b), some (.d (.str lets)), some (.d d)], [some (B b), some (.d (.str lets)), some (.d d)], .str [c], [some (B b2), some (.d (.str lets)), some (.d d)], ?_, ?_, ?_, ⟨b2, _, rfl⟩, c, rfl, hc2⟩
    · simp [bindT, setSlot, maskE]
    · rfl
    · simp [lentIx, isD, exs, ex, ev, evs, evt, evi, evc, argM, itemM, M.bind, M.pure, M.opt, M.lift, M.fail, M.quiet, argsD, argD, R.val, getL, getP, getI, putL, putP, modL, setAt, prim, arith, arithI, cmpD, okB, okd, okw, okS, guardR, truthD, bindT, bindTs, setSlot, R.frz, divOk, mulOk, powOk, moveI, shareL, outsOf, callM, takeA, giveA, walkS, walkM, keepM, maskE, restE, varsT, varsTs, dicSrc, isLoc, unlockL, itemsN, itemsD, itemsT, strsOf, quietIf, fixC, ofRange, isOne, inD, sizeMax, t1, t2, hm, hc])
    [some (B b1), some (.d (.str lets)), none] ⟨b1, none, rfl⟩
  obtain ⟨l, j1, j2, j3, j4, j5⟩ := join1 r h3
  have hlen : r.length ≤ 6 := by rw [h4, nums_len]; omega
  have hlc : ev (cx (n + 1) [0]) l__law_word_1 [some (B b), some (.d (.str lets)), none] = some (.ok (.own (.lst r)), [some (B b4), some (.d (.str lets)), none]) := by
    have := lc_eval (c := cx (n + 1) [0]) (ρ := [some (B b), some (.d (.str lets)), none]) (ρ1 := [some (B b1), some (.d (.str lets)), none]) (src := .range [(.call "_law_take" [(.loc 0 []), (.con (.int 7))])]) (x := .d (.lst (nums 0 k.toNat))) rfl rfl (by
      have : k.natAbs < 4611686018427387904 := by omega
      simp [lentIx, isD, exs, ex, ev, evs, evt, evi, evc, argM, itemM, M.bind, M.pure, M.opt, M.lift, M.fail, M.quiet, argsD, argD, R.val, getL, getP, getI, putL, putP, modL, setAt, prim, arith, arithI, cmpD, okB, okd, okw, okS, guardR, truthD, bindT, bindTs, setSlot, R.frz, divOk, mulOk, powOk, moveI, shareL, outsOf, callM, takeA, giveA, walkS, walkM, keepM, maskE, restE, varsT, varsTs, dicSrc, isLoc, unlockL, itemsN, itemsD, itemsT, strsOf, quietIf, fixC, ofRange, isOne, inD, sizeMax, ht, this]) rfl h1 (by simp [sizeMax]; omega)
    exact this
  refine ⟨joinCs [] l, b4, ⟨by omega, j5⟩, ?_⟩
  rw [callN_cx e0 rfl]
  have hs : (l.map (·.length)).sum ≤ 1000000 := by rw [j2]; omega
  have hlc' := hlc
  unfold lets at hlc'
  simp [f__law_word, lentIx, isD, exs, ex, ev, evs, evt, evi, evc, argM, itemM, M.bind, M.pure, M.opt, M.lift, M.fail, M.quiet, argsD, argD, R.val, getL, getP, getI, putL, putP, modL, setAt, prim, arith, arithI, cmpD, okB, okd, okw, okS, guardR, truthD, bindT, bindTs, setSlot, R.frz, divOk, mulOk, powOk, moveI, shareL, outsOf, callM, takeA, giveA, walkS, walkM, keepM, maskE, restE, varsT, varsTs, dicSrc, isLoc, unlockL, itemsN, itemsD, itemsT, strsOf, quietIf, fixC, ofRange, isOne, inD, sizeMax, hlc', ↓arg_w1, j1, hs]
end K03
namespace K03
open Mini
/-- what a law's value may be -/
inductive Val : D → Prop where
  | int (i : Int) (h : i.natAbs ≤ 10 ^ 30) : Val (.int i)
  | bl (b : Bool) : Val (.bl b)
  | non : Val .non
  | t0 : Val (.tup [])
  | t1 : Val (.tup [.int 1])
  | tn : Val (.tup [.str [110]])
  | str (w : Cs) (h : Wd w) : Val (.str w)
theorem ix_mem {c : Ctx} {L : List D} {r : Int} (h0 : 0 ≤ r) (h1 : r < L.length) : ∃ v, v ∈ L ∧ ixD c (.lst L) (.int r) = some (.ok (.d v)) := by
  obtain ⟨j, rfl⟩ : ∃ j : Nat, r = j := ⟨r.toNat, by omega⟩
  have hj : j < L.length := by omega
  refine ⟨L[j], List.getElem_mem hj, ?_⟩
  have h1 : ixNat L.length (j : Int) = some j := by simp [ixNat, hj]
  simp only [ixD, h1, Option.bind_some, List.getElem?_eq_getElem hj]
  rfl
theorem any (n : Nat) (b : Int × Int × Int) : ∃ v b', Val v ∧ callN pg 1000 (n + 3) "_law_any" [B b] = some (.ok (.d v), [some (B b')]) := by
  have e0 : getFn "_law_any" pg.fns = some f__law_any := rfl
  obtain ⟨k, b1, hk, h1⟩ := take (n + 1) b 7 (by decide) (by decide)
  obtain ⟨w1, b2, g1, h2⟩ := word n b1
  obtain ⟨w2, b3, g2, h3⟩ := word n b2
  obtain ⟨w3, b4, g3, h4⟩ := word n b3
  obtain ⟨m, b5, hm, h5⟩ := take (n + 1) b4 1000000000 (by decide) (by decide)
  obtain ⟨r, b6, hr, h6⟩ := take (n + 1) b5 15 (by decide) (by decide)
  obtain ⟨v, hv, h7⟩ := ix_mem (c := cx (n + 2) [0]) (L := [.int (k - 3), .int (-100000000000000000000), .int 999999999999999999999999999999, .bl true, .bl false, .non, .tup [], .tup [.int 1], .tup [.str [110]], .str [48], .str [115, 116, 101, 112], .str w1, .str w2, .str w3, .int m]) hr.1 hr.2
  refine ⟨v, b6, ?_, ?_⟩
  · simp only [List.mem_cons, List.not_mem_nil, or_false] at hv
    rcases hv with rfl | rfl | rfl | rfl | rfl | rfl | rfl | rfl | rfl | rfl | rfl | rfl | rfl | rfl | rfl
    · exact .int _ (by omega)
    · exact .int _ (by decide)
    · exact .int _ (by decide)
    · exact .bl _
    · exact .bl _
    · exact .non
    · exact .t0
    · exact .t1
    · exact .tn
    · exact .str _ ⟨by decide, by decide⟩
    · exact .str _ ⟨by decide, by decide⟩
    · exact .str _ g1
    · exact .str _ g2
    · exact .str _ g3
    · exact .int _ (by omega)
  · rw [callN_cx e0 rfl]
    simp [f__law_any, lentIx, isD, exs, ex, ev, evs, evt, evi, evc, argM, itemM, M.bind, M.pure, M.opt, M.lift, M.fail, M.quiet, argsD, argD, R.val, getL, getP, getI, putL, putP, modL, setAt, prim, arith, arithI, cmpD, okB, okd, okw, okS, guardR, truthD, bindT, bindTs, setSlot, R.frz, divOk, mulOk, powOk, moveI, shareL, outsOf, callM, takeA, giveA, walkS, walkM, keepM, maskE, restE, varsT, varsTs, dicSrc, isLoc, unlockL, itemsN, itemsD, itemsT, strsOf, quietIf, fixC, ofRange, isOne, inD, sizeMax, h1, h2, h3, h4, h5, h6, h7]

theorem lcF_map {bnd : D → Env → Option Env} {cnd : M Bool} {elt : M (List D)} (I : Env → Prop) (f : D → D) : ∀ (l : List D),
    (∀ d e, d ∈ l → I e → ∃ e1 e2 e3, bnd d e = some e1 ∧ cnd e1 = some (.ok true, e2) ∧ elt e2 = some (.ok [f d], e3) ∧ I e3) →
    ∀ e, I e → ∃ e4, lcF bnd cnd elt l e = some (l.map f, e4) ∧ I e4
  | [], _, e, h => ⟨e, rfl, h⟩
  | d :: l, hs, e, h => by
    obtain ⟨e1, e2, e3, h1, h2, h3, h4⟩ := hs d e (by simp) h
    obtain ⟨e4, k1, k2⟩ := lcF_map I f l (fun d e hd => hs d e (by simp [hd])) e3 h4
    exact ⟨e4, by simp [lcF, h1, h2, h3, k1], k2⟩
theorem lcF_filter {bnd : D → Env → Option Env} {cnd : M Bool} {elt : M (List D)} (I : Env → Prop) (p : D → Bool) : ∀ (l : List D),
    (∀ d e, d ∈ l → I e → ∃ e1 e2, bnd d e = some e1 ∧ cnd e1 = some (.ok (p d), e2) ∧ (p d = true → ∃ e3, elt e2 = some (.ok [d], e3) ∧ I e3) ∧ (p d = false → I e2)) →
    ∀ e, I e → ∃ e4, lcF bnd cnd elt l e = some (l.filter p, e4) ∧ I e4
  | [], _, e, h => ⟨e, rfl, h⟩
  | d :: l, hs, e, h => by
    obtain ⟨e1, e2, h1, h2, h3, h4⟩ := hs d e (by simp) h
    cases hp : p d with
    | true =>
      obtain ⟨e3, h5, h6⟩ := h3 hp
      obtain ⟨e4, k1, k2⟩ := lcF_filter I p l (fun d e hd => hs d e (by simp [hd])) e3 h6
      exact ⟨e4, by simp [lcF, h1, h2, hp, h5, k1], k2⟩
    | false =>
      obtain ⟨e4, k1, k2⟩ := lcF_filter I p l (fun d e hd => hs d e (by simp [hd])) e2 (h4 hp)
      exact ⟨e4, by simp [lcF, h1, h2, hp, k1], k2⟩
def abc : Cs := [97, 98, 99, 100, 101, 102, 103, 104, 105, 106, 107, 108, 109, 110, 111, 112, 113, 114, 115, 116, 117, 118, 119, 120, 121, 122]
/-- a name: 1 to 4 small letters -/
def nameB (w : Cs) : Bool := decide (1 ≤ w.length) && decide (w.length ≤ 4) && w.all (fun c => abc.contains c)
def nm : D → Bool
  | .str w => nameB w
  | _ => false
theorem blsOf_map {p : Nat → Bool} : ∀ (w : Cs), blsOf (w.map fun c => D.bl (p c)) = some (w.map p)
  | [] => rfl
  | c :: w => by simp [blsOf, blsOf_map w]
theorem arg_n1 (v : M R) : argM l_is_name_1 v = M.bind v fun x => M.pure (.r x) := rfl
theorem arg_n2 (v : M R) : argM l__law_is_name_1 v = M.bind v fun x => M.pure (.r x) := rfl
theorem is_name (n : Nat) (v : D) (hv : Val v) : callN pg 1000 (n + 1) "is_name" [.d v] = some (.ok (.d (.bl (nm v))), [some (.d v)]) := by
  have e0 : getFn "is_name" pg.fns = some f_is_name := rfl
  have e1 : getF "MOST_LETTERS" pg.cst = some (.int 4) := rfl
  have e2 : getF "LETTERS" pg.cst = some (.str abc) := rfl
  have hx : pg.own = ["Amount"] := rfl
  rw [callN_cx e0 rfl]
  cases hv with
  | str w hw =>
    have hl : w.length ≤ 1000000 := by have := hw.1; omega
    by_cases h1 : 1 ≤ w.length
    · by_cases h4 : w.length ≤ 4
      · have hlc : ev (cx n []) l_is_name_1 [some (.d (.str w)), none] = some (.ok (.own (.lst (w.map fun c => D.bl (abc.contains c)))), [some (.d (.str w)), none]) := by
          obtain ⟨e4, k1, x4, rfl⟩ := lcF_map (bnd := fun d e => bindT (cx n []) (.v 1) (.d d) (maskE [1] e)) (cnd := evc (cx n []) []) (elt := M.bind (ev (cx n []) (.prim .in_ [(.loc 1 []), (.glb "LETTERS")])) fun x => M.pure [x.frz])
            (fun e => ∃ x, e = [some (.d (.str w)), x]) (fun d => match d with | .str [c] => D.bl (abc.contains c) | _ => .non) (w.map fun c => .str [c]) (by
              rintro d e hd ⟨x, rfl⟩
              obtain ⟨c, _, rfl⟩ := List.mem_map.mp hd
              refine ⟨[some (.d (.str w)), some (.d (.str [c]))], [some (.d (.str w)), some (.d (.str [c]))], [some (.d (.str w)), some (.d (.str [c]))], ?_, ?_, ?_, _, rfl⟩
              · simp [bindT, setSlot, maskE]
              · rfl
              · simp [lentIx, isD, exs, ex, ev, evs, evt, evi, evc, argM, itemM, M.bind, M.pure, M.opt, M.lift, M.fail, M.quiet, argsD, argD, R.val, getL, getP, getI, putL, putP, modL, setAt, prim, arith, arithI, cmpD, okB, okd, okw, okS, guardR, truthD, bindT, bindTs, setSlot, R.frz, divOk, mulOk, powOk, moveI, shareL, outsOf, callM, takeA, giveA, walkS, walkM, keepM, maskE, restE, varsT, varsTs, dicSrc, isLoc, unlockL, itemsN, itemsD, itemsT, strsOf, quietIf, fixC, ofRange, isOne, inD, sizeMax, e2]) [some (.d (.str w)), none] ⟨none, rfl⟩
          have := lc_eval (c := cx n []) (ρ := [some (.d (.str w)), none]) (ρ1 := [some (.d (.str w)), none]) (src := .var 0) (x := .d (.str w)) rfl rfl (by simp [lentIx, isD, exs, ex, ev, evs, evt, evi, evc, argM, itemM, M.bind, M.pure, M.opt, M.lift, M.fail, M.quiet, argsD, argD, R.val, getL, getP, getI, putL, putP, modL, setAt, prim, arith, arithI, cmpD, okB, okd, okw, okS, guardR, truthD, bindT, bindTs, setSlot, R.frz, divOk, mulOk, powOk, moveI, shareL, outsOf, callM, takeA, giveA, walkS, walkM, keepM, maskE, restE, varsT, varsTs, dicSrc, isLoc, unlockL, itemsN, itemsD, itemsT, strsOf, quietIf, fixC, ofRange, isOne, inD, sizeMax]) rfl k1 (by simp [sizeMax]; omega)
          rw [List.map_map] at this
          exact this
        have i1 : (1 : Int) ≤ (w.length : Int) := by omega
        have i4 : (w.length : Int) ≤ 4 := by omega
        simp [f_is_name, lentIx, isD, exs, ex, ev, evs, evt, evi, evc, argM, itemM, M.bind, M.pure, M.opt, M.lift, M.fail, M.quiet, argsD, argD, R.val, getL, getP, getI, putL, putP, modL, setAt, prim, arith, arithI, cmpD, okB, okd, okw, okS, guardR, truthD, bindT, bindTs, setSlot, R.frz, divOk, mulOk, powOk, moveI, shareL, outsOf, callM, takeA, giveA, walkS, walkM, keepM, maskE, restE, varsT, varsTs, dicSrc, isLoc, unlockL, itemsN, itemsD, itemsT, strsOf, quietIf, fixC, ofRange, isOne, inD, sizeMax, hl, h1, h4, i1, i4, e1, ↓arg_n1, hlc, blsOf_map, nm, nameB]
      · have i1 : (1 : Int) ≤ (w.length : Int) := by omega
        have i4 : ¬ (w.length : Int) ≤ 4 := by omega
        simp [f_is_name, lentIx, isD, exs, ex, ev, evs, evt, evi, evc, argM, itemM, M.bind, M.pure, M.opt, M.lift, M.fail, M.quiet, argsD, argD, R.val, getL, getP, getI, putL, putP, modL, setAt, prim, arith, arithI, cmpD, okB, okd, okw, okS, guardR, truthD, bindT, bindTs, setSlot, R.frz, divOk, mulOk, powOk, moveI, shareL, outsOf, callM, takeA, giveA, walkS, walkM, keepM, maskE, restE, varsT, varsTs, dicSrc, isLoc, unlockL, itemsN, itemsD, itemsT, strsOf, quietIf, fixC, ofRange, isOne, inD, sizeMax, hl, h1, h4, i1, i4, e1, nm, nameB]
    · have i1 : ¬ (1 : Int) ≤ (w.length : Int) := by omega
      simp [f_is_name, lentIx, isD, exs, ex, ev, evs, evt, evi, evc, argM, itemM, M.bind, M.pure, M.opt, M.lift, M.fail, M.quiet, argsD, argD, R.val, getL, getP, getI, putL, putP, modL, setAt, prim, arith, arithI, cmpD, okB, okd, okw, okS, guardR, truthD, bindT, bindTs, setSlot, R.frz, divOk, mulOk, powOk, moveI, shareL, outsOf, callM, takeA, giveA, walkS, walkM, keepM, maskE, restE, varsT, varsTs, dicSrc, isLoc, unlockL, itemsN, itemsD, itemsT, strsOf, quietIf, fixC, ofRange, isOne, inD, sizeMax, hl, h1, i1, e1, nm, nameB]
  | _ => simp [f_is_name, lentIx, isD, exs, ex, ev, evs, evt, evi, evc, argM, itemM, M.bind, M.pure, M.opt, M.lift, M.fail, M.quiet, argsD, argD, R.val, getL, getP, getI, putL, putP, modL, setAt, prim, arith, arithI, cmpD, okB, okd, okw, okS, guardR, truthD, bindT, bindTs, setSlot, R.frz, divOk, mulOk, powOk, moveI, shareL, outsOf, callM, takeA, giveA, walkS, walkM, keepM, maskE, restE, varsT, varsTs, dicSrc, isLoc, unlockL, itemsN, itemsD, itemsT, strsOf, quietIf, fixC, ofRange, isOne, inD, sizeMax, nm]
theorem okPs_str : ∀ (l : Cs), l.all (fun c => decide (c < 1114112)) = true → okPs (l.map fun c => D.str [c]) 59 = true
  | [], _ => rfl
  | c :: l, h => by
    simp only [List.all_cons, Bool.and_eq_true] at h
    simp [okPs, okP, okPs_str l h.2, sizeMax]
    simpa using h.1
theorem law_is_name (n : Nat) (v : D) (hv : Val v) : callN pg 1000 (n + 1) "_law_is_name" [.d v] = some (.ok (.d (.bl (nm v))), [some (.d v)]) := by
  have e0 : getFn "_law_is_name" pg.fns = some f__law_is_name := rfl
  rw [callN_cx e0 rfl]
  cases hv with
  | str w hw =>
    have hl : w.length ≤ 1000000 := by have := hw.1; omega
    by_cases h1 : 1 ≤ w.length
    · by_cases h4 : w.length ≤ 4
      · have hlc : ev (cx n []) l__law_is_name_1 [some (.d (.str w)), none] = some (.ok (.own (.lst ((w.filter fun c => !abc.contains c).map fun c => D.str [c]))), [some (.d (.str w)), none]) := by
          obtain ⟨e4, k1, x4, rfl⟩ := lcF_filter (bnd := fun d e => bindT (cx n []) (.v 1) (.d d) (maskE [1] e)) (cnd := evc (cx n []) [(.tval (.prim .notin [(.loc 1 []), (.con (.str abc))]))]) (elt := M.bind (ev (cx n []) (.var 1)) fun x => M.pure [x.frz])
            (fun e => ∃ x, e = [some (.d (.str w)), x]) (fun d => match d with | .str [c] => !abc.contains c | _ => false) (w.map fun c => .str [c]) (by
              rintro d e hd ⟨x, rfl⟩
              obtain ⟨c, _, rfl⟩ := List.mem_map.mp hd
              refine ⟨[some (.d (.str w)), some (.d (.str [c]))], [some (.d (.str w)), some (.d (.str [c]))], ?_, ?_, fun _ => ⟨[some (.d (.str w)), some (.d (.str [c]))], ?_, _, rfl⟩, fun _ => ⟨_, rfl⟩⟩
              · simp [bindT, setSlot, maskE]
              · by_cases hc : c ∈ abc <;> simp [lentIx, isD, exs, ex, ev, evs, evt, evi, evc, argM, itemM, M.bind, M.pure, M.opt, M.lift, M.fail, M.quiet, argsD, argD, R.val, getL, getP, getI, putL, putP, modL, setAt, prim, arith, arithI, cmpD, okB, okd, okw, okS, guardR, truthD, bindT, bindTs, setSlot, R.frz, divOk, mulOk, powOk, moveI, shareL, outsOf, callM, takeA, giveA, walkS, walkM, keepM, maskE, restE, varsT, varsTs, dicSrc, isLoc, unlockL, itemsN, itemsD, itemsT, strsOf, quietIf, fixC, ofRange, isOne, inD, sizeMax, hc]
              · simp [lentIx, isD, exs, ex, ev, evs, evt, evi, evc, argM, itemM, M.bind, M.pure, M.opt, M.lift, M.fail, M.quiet, argsD, argD, R.val, getL, getP, getI, putL, putP, modL, setAt, prim, arith, arithI, cmpD, okB, okd, okw, okS, guardR, truthD, bindT, bindTs, setSlot, R.frz, divOk, mulOk, powOk, moveI, shareL, outsOf, callM, takeA, giveA, walkS, walkM, keepM, maskE, restE, varsT, varsTs, dicSrc, isLoc, unlockL, itemsN, itemsD, itemsT, strsOf, quietIf, fixC, ofRange, isOne, inD, sizeMax]) [some (.d (.str w)), none] ⟨none, rfl⟩
          have := lc_eval (c := cx n []) (ρ := [some (.d (.str w)), none]) (ρ1 := [some (.d (.str w)), none]) (src := .var 0) (x := .d (.str w)) rfl rfl (by simp [lentIx, isD, exs, ex, ev, evs, evt, evi, evc, argM, itemM, M.bind, M.pure, M.opt, M.lift, M.fail, M.quiet, argsD, argD, R.val, getL, getP, getI, putL, putP, modL, setAt, prim, arith, arithI, cmpD, okB, okd, okw, okS, guardR, truthD, bindT, bindTs, setSlot, R.frz, divOk, mulOk, powOk, moveI, shareL, outsOf, callM, takeA, giveA, walkS, walkM, keepM, maskE, restE, varsT, varsTs, dicSrc, isLoc, unlockL, itemsN, itemsD, itemsT, strsOf, quietIf, fixC, ofRange, isOne, inD, sizeMax]) rfl k1 (by have := List.length_filter_le (fun d => match d with | D.str [c] => !abc.contains c | _ => false) (w.map fun c => D.str [c]); simp [sizeMax] at this ⊢; omega)
          rw [List.filter_map] at this
          exact this
        have hok := okPs_str (w.filter fun c => !abc.contains c) (by
          have := hw.2
          simp only [List.all_eq_true] at this ⊢
          intro c hc
          exact this c (List.mem_filter.mp hc).1)
        have i1 : ¬ (w.length : Int) < 1 := by omega
        have i4 : ¬ (4 : Int) < (w.length : Int) := by omega
        have he : eqD (cx n []) (.lst ((w.filter fun c => !abc.contains c).map fun c => D.str [c])) (.lst []) = some (w.all fun c => abc.contains c) := by
          cases hf : w.filter fun c => !abc.contains c with
          | nil =>
            have : w.all (fun c => abc.contains c) = true := by
              rw [List.all_eq_true]
              intro c hc
              cases hz : abc.contains c with
              | true => rfl
              | false =>
                have : c ∈ w.filter fun c => !abc.contains c := List.mem_filter.mpr ⟨hc, by show (!abc.contains c) = true; rw [hz]; rfl⟩
                rw [hf] at this
                cases this
            rw [this]
            rfl
          | cons c l =>
            have hm : c ∈ c :: l := by simp
            rw [← hf] at hm
            have hm := List.mem_filter.mp hm
            have : w.all (fun c => abc.contains c) = false := by
              rw [List.all_eq_false]
              exact ⟨c, hm.1, by simpa using hm.2⟩
            rw [this]
            simp [eqD]
        have hn : nm (.str w) = (w.all fun c => abc.contains c) := by simp [nm, nameB, h1, h4]
        rw [hn]
        generalize (w.all fun c => abc.contains c) = bb at he ⊢
        generalize ((w.filter fun c => !abc.contains c).map fun c => D.str [c]) = L at hlc he hok
        simp [f__law_is_name, lentIx, isD, exs, ex, ev, evs, evt, evi, evc, argM, itemM, M.bind, M.pure, M.opt, M.lift, M.fail, M.quiet, argsD, argD, R.val, getL, getP, getI, putL, putP, modL, setAt, prim, arith, arithI, cmpD, okB, okd, okw, okS, guardR, truthD, bindT, bindTs, setSlot, R.frz, divOk, mulOk, powOk, moveI, shareL, outsOf, callM, takeA, giveA, walkS, walkM, keepM, maskE, restE, varsT, varsTs, dicSrc, isLoc, unlockL, itemsN, itemsD, itemsT, strsOf, quietIf, fixC, ofRange, isOne, inD, sizeMax, hl, h1, h4, i1, i4, ↓arg_n2, hlc, he, hok, okP, okPs]
      · have i1 : ¬ (w.length : Int) < 1 := by omega
        have i4 : (4 : Int) < (w.length : Int) := by omega
        simp [f__law_is_name, lentIx, isD, exs, ex, ev, evs, evt, evi, evc, argM, itemM, M.bind, M.pure, M.opt, M.lift, M.fail, M.quiet, argsD, argD, R.val, getL, getP, getI, putL, putP, modL, setAt, prim, arith, arithI, cmpD, okB, okd, okw, okS, guardR, truthD, bindT, bindTs, setSlot, R.frz, divOk, mulOk, powOk, moveI, shareL, outsOf, callM, takeA, giveA, walkS, walkM, keepM, maskE, restE, varsT, varsTs, dicSrc, isLoc, unlockL, itemsN, itemsD, itemsT, strsOf, quietIf, fixC, ofRange, isOne, inD, sizeMax, hl, h1, h4, i1, i4, nm, nameB]
    · have i1 : (w.length : Int) < 1 := by omega
      simp [f__law_is_name, lentIx, isD, exs, ex, ev, evs, evt, evi, evc, argM, itemM, M.bind, M.pure, M.opt, M.lift, M.fail, M.quiet, argsD, argD, R.val, getL, getP, getI, putL, putP, modL, setAt, prim, arith, arithI, cmpD, okB, okd, okw, okS, guardR, truthD, bindT, bindTs, setSlot, R.frz, divOk, mulOk, powOk, moveI, shareL, outsOf, callM, takeA, giveA, walkS, walkM, keepM, maskE, restE, varsT, varsTs, dicSrc, isLoc, unlockL, itemsN, itemsD, itemsT, strsOf, quietIf, fixC, ofRange, isOne, inD, sizeMax, hl, h1, i1, nm, nameB]
  | _ => simp [f__law_is_name, lentIx, isD, exs, ex, ev, evs, evt, evi, evc, argM, itemM, M.bind, M.pure, M.opt, M.lift, M.fail, M.quiet, argsD, argD, R.val, getL, getP, getI, putL, putP, modL, setAt, prim, arith, arithI, cmpD, okB, okd, okw, okS, guardR, truthD, bindT, bindTs, setSlot, R.frz, divOk, mulOk, powOk, moveI, shareL, outsOf, callM, takeA, giveA, walkS, walkM, keepM, maskE, restE, varsT, varsTs, dicSrc, isLoc, unlockL, itemsN, itemsD, itemsT, strsOf, quietIf, fixC, ofRange, isOne, inD, sizeMax, nm]
end K03
namespace K03
open Mini
theorem d9999 : intCs 9999 = [57, 57, 57, 57] := by decide +kernel
theorem d9998 : intCs 9998 = [57, 57, 57, 56] := by decide +kernel
theorem l9999 : Nat.log2 9999 = 13 := by decide
theorem l9998 : Nat.log2 9998 = 13 := by decide
/-- the table of an amount's names, as ordered gives it -/
def sums (ws : List Cs) (i : Int) : D := if 0 < i then .tup [.tup [.tup (ws.map .str), .int i]] else .tup []
theorem ord (n : Nat) (w : Option Cs) (hw : ∀ x, w = some x → Wd x) (i : Int) : callN pg 1000 (n + 1) "ordered" [.d (.dic [(.tup (w.toList.map .str), .int i)])] = some (.ok (.d (sums w.toList i)), [some (.d (.dic [(.tup (w.toList.map .str), .int i)]))]) := by
  have e0 : getFn "ordered" pg.fns = some f_ordered := rfl
  rw [callN_cx e0 rfl]
  by_cases hi : 0 < i
  · cases w with
    | none => simp [f_ordered, l_ordered_1, l_ordered_2, l_ordered_3, lentIx, isD, exs, ex, ev, evs, evt, evi, evc, argM, itemM, M.bind, M.pure, M.opt, M.lift, M.fail, M.quiet, argsD, argD, R.val, getL, getP, getI, putL, putP, modL, setAt, prim, arith, arithI, cmpD, okB, okd, okw, okS, guardR, truthD, bindT, bindTs, setSlot, R.frz, divOk, mulOk, powOk, moveI, shareL, outsOf, callM, takeA, giveA, walkS, walkM, keepM, maskE, restE, varsT, varsTs, dicSrc, isLoc, unlockL, itemsN, itemsD, itemsT, strsOf, quietIf, fixC, ofRange, isOne, inD, sizeMax, ixD, ixNat, forF, lcF, evk, evm, dPut, dGet, D.beq, D.beqs, isKey, flatKey, sameKind, isTupD, itemM, itemsK, joinCs, strD, sortCs, insCs, sums, hi, d9999, l9999]
    | some w =>
      have h1 : w.length ≤ 1000000 := by have := (hw w rfl).1; omega
      have h0 : w.length ≤ 999999 := by have := (hw w rfl).1; omega
      have h2 : 4 + (1 + w.length) ≤ 1000000 := by have := (hw w rfl).1; omega
      have h3 : w.length + 1 + 1 + 1 + 1 + 1 ≤ 1000000 := by have := (hw w rfl).1; omega
      simp [f_ordered, l_ordered_1, l_ordered_2, l_ordered_3, lentIx, isD, exs, ex, ev, evs, evt, evi, evc, argM, itemM, M.bind, M.pure, M.opt, M.lift, M.fail, M.quiet, argsD, argD, R.val, getL, getP, getI, putL, putP, modL, setAt, prim, arith, arithI, cmpD, okB, okd, okw, okS, guardR, truthD, bindT, bindTs, setSlot, R.frz, divOk, mulOk, powOk, moveI, shareL, outsOf, callM, takeA, giveA, walkS, walkM, keepM, maskE, restE, varsT, varsTs, dicSrc, isLoc, unlockL, itemsN, itemsD, itemsT, strsOf, quietIf, fixC, ofRange, isOne, inD, sizeMax, ixD, ixNat, forF, lcF, evk, evm, dPut, dGet, D.beq, D.beqs, isKey, flatKey, sameKind, isTupD, itemM, itemsK, joinCs, strD, sortCs, insCs, sums, hi, d9998, l9998, h0, h1, h2, h3]
  · cases w with
    | none => simp [f_ordered, l_ordered_1, l_ordered_2, l_ordered_3, lentIx, isD, exs, ex, ev, evs, evt, evi, evc, argM, itemM, M.bind, M.pure, M.opt, M.lift, M.fail, M.quiet, argsD, argD, R.val, getL, getP, getI, putL, putP, modL, setAt, prim, arith, arithI, cmpD, okB, okd, okw, okS, guardR, truthD, bindT, bindTs, setSlot, R.frz, divOk, mulOk, powOk, moveI, shareL, outsOf, callM, takeA, giveA, walkS, walkM, keepM, maskE, restE, varsT, varsTs, dicSrc, isLoc, unlockL, itemsN, itemsD, itemsT, strsOf, quietIf, fixC, ofRange, isOne, inD, sizeMax, ixD, ixNat, forF, lcF, evk, evm, dPut, dGet, D.beq, D.beqs, isKey, flatKey, sameKind, isTupD, itemM, itemsK, joinCs, strD, sortCs, insCs, sums, hi]
    | some w => simp [f_ordered, l_ordered_1, l_ordered_2, l_ordered_3, lentIx, isD, exs, ex, ev, evs, evt, evi, evc, argM, itemM, M.bind, M.pure, M.opt, M.lift, M.fail, M.quiet, argsD, argD, R.val, getL, getP, getI, putL, putP, modL, setAt, prim, arith, arithI, cmpD, okB, okd, okw, okS, guardR, truthD, bindT, bindTs, setSlot, R.frz, divOk, mulOk, powOk, moveI, shareL, outsOf, callM, takeA, giveA, walkS, walkM, keepM, maskE, restE, varsT, varsTs, dicSrc, isLoc, unlockL, itemsN, itemsD, itemsT, strsOf, quietIf, fixC, ofRange, isOne, inD, sizeMax, ixD, ixNat, forF, lcF, evk, evm, dPut, dGet, D.beq, D.beqs, isKey, flatKey, sameKind, isTupD, itemM, itemsK, joinCs, strD, sortCs, insCs, sums, hi]
end K03
namespace K03
open Mini
theorem is_integer (n : Nat) (v : D) (hv : Val v) : callN pg 1000 (n + 1) "is_integer" [.d v] = some (.ok (.d (.bl (match v with | .int _ => true | _ => false))), [some (.d v)]) := by
  have e0 : getFn "is_integer" pg.fns = some f_is_integer := rfl
  rw [callN_cx e0 rfl]
  cases hv <;> simp [f_is_integer, lentIx, isD, exs, ex, ev, evs, evt, evi, evc, argM, itemM, M.bind, M.pure, M.opt, M.lift, M.fail, M.quiet, argsD, argD, R.val, getL, getP, getI, putL, putP, modL, setAt, prim, arith, arithI, cmpD, okB, okd, okw, okS, guardR, truthD, bindT, bindTs, setSlot, R.frz, divOk, mulOk, powOk, moveI, shareL, outsOf, callM, takeA, giveA, walkS, walkM, keepM, maskE, restE, varsT, varsTs, dicSrc, isLoc, unlockL, itemsN, itemsD, itemsT, strsOf, quietIf, fixC, ofRange, isOne, inD, sizeMax]
def whole : D → Bool
  | .int i => decide (0 ≤ i)
  | _ => false
theorem is_whole (n : Nat) (v : D) (hv : Val v) : callN pg 1000 (n + 2) "is_whole" [.d v] = some (.ok (.d (.bl (whole v))), [some (.d v)]) := by
  have e0 : getFn "is_whole" pg.fns = some f_is_whole := rfl
  have h := is_integer n v hv
  rw [callN_cx e0 rfl]
  cases hv <;> simp only at h <;> simp [f_is_whole, lentIx, isD, exs, ex, ev, evs, evt, evi, evc, argM, itemM, M.bind, M.pure, M.opt, M.lift, M.fail, M.quiet, argsD, argD, R.val, getL, getP, getI, putL, putP, modL, setAt, prim, arith, arithI, cmpD, okB, okd, okw, okS, guardR, truthD, bindT, bindTs, setSlot, R.frz, divOk, mulOk, powOk, moveI, shareL, outsOf, callM, takeA, giveA, walkS, walkM, keepM, maskE, restE, varsT, varsTs, dicSrc, isLoc, unlockL, itemsN, itemsD, itemsT, strsOf, quietIf, fixC, ofRange, isOne, inD, sizeMax, h, whole]
/-- an amount of one summand -/
def amt (w : Option Cs) (i : Int) : D := .obj "Amount" [("sums", sums w.toList i), ("names", .tup (if 0 < i then w.toList.map .str else []))]
theorem init (n : Nat) (w : Option Cs) (hw : ∀ x, w = some x → Wd x) (i : Int) : callN pg 1000 (n + 2) "Amount.__init__" [.obj "Amount" [], .own (.dic [(.tup (w.toList.map .str), .int i)])] =
    some (.ok (.d .non), [some (.obj "Amount" [("sums", .d (sums w.toList i)), ("names", .d (.tup (if 0 < i then w.toList.map .str else [])))]), some (.d (.dic [(.tup (w.toList.map .str), .int i)]))]) := by
  have e0 : getFn "Amount.__init__" pg.fns = some f_Amount___init__ := rfl
  have h := ord n w hw i
  have hx : (pg.own).contains "Amount" = true := rfl
  have h1 : getFn "Amount.sums" pg.fns = none := rfl
  have h2 : getFn "Amount.names" pg.fns = none := rfl
  have hx : pg.own = ["Amount"] := rfl
  rw [callN_cx e0 rfl]
  by_cases hi : 0 < i
  · cases w with
    | none =>
      simp [sums, hi] at h
      simp [f_Amount___init__, l_Amount___init___1, lentIx, isD, exs, ex, ev, evs, evt, evi, evc, argM, itemM, M.bind, M.pure, M.opt, M.lift, M.fail, M.quiet, argsD, argD, R.val, getL, getP, getI, putL, putP, modL, setAt, prim, arith, arithI, cmpD, okB, okd, okw, okS, guardR, truthD, bindT, bindTs, setSlot, R.frz, divOk, mulOk, powOk, moveI, shareL, outsOf, callM, takeA, giveA, walkS, walkM, keepM, maskE, restE, varsT, varsTs, dicSrc, isLoc, unlockL, itemsN, itemsD, itemsT, strsOf, quietIf, fixC, ofRange, isOne, inD, sizeMax, h, h1, h2, hx, getFR, putFR, peekM, pathOk, dataM, lcF, itemM, sortCs, insCs, dedup, strD, sums, hi]
    | some w =>
      have h3 : w.length ≤ 1000000 := by have := (hw w rfl).1; omega
      simp [sums, hi] at h
      simp [f_Amount___init__, l_Amount___init___1, lentIx, isD, exs, ex, ev, evs, evt, evi, evc, argM, itemM, M.bind, M.pure, M.opt, M.lift, M.fail, M.quiet, argsD, argD, R.val, getL, getP, getI, putL, putP, modL, setAt, prim, arith, arithI, cmpD, okB, okd, okw, okS, guardR, truthD, bindT, bindTs, setSlot, R.frz, divOk, mulOk, powOk, moveI, shareL, outsOf, callM, takeA, giveA, walkS, walkM, keepM, maskE, restE, varsT, varsTs, dicSrc, isLoc, unlockL, itemsN, itemsD, itemsT, strsOf, quietIf, fixC, ofRange, isOne, inD, sizeMax, h, h1, h2, hx, getFR, putFR, peekM, pathOk, dataM, lcF, itemM, sortCs, insCs, dedup, strD, sums, hi, h3]
  · simp [sums, hi] at h
    simp [f_Amount___init__, l_Amount___init___1, lentIx, isD, exs, ex, ev, evs, evt, evi, evc, argM, itemM, M.bind, M.pure, M.opt, M.lift, M.fail, M.quiet, argsD, argD, R.val, getL, getP, getI, putL, putP, modL, setAt, prim, arith, arithI, cmpD, okB, okd, okw, okS, guardR, truthD, bindT, bindTs, setSlot, R.frz, divOk, mulOk, powOk, moveI, shareL, outsOf, callM, takeA, giveA, walkS, walkM, keepM, maskE, restE, varsT, varsTs, dicSrc, isLoc, unlockL, itemsN, itemsD, itemsT, strsOf, quietIf, fixC, ofRange, isOne, inD, sizeMax, h, h1, h2, hx, getFR, putFR, peekM, pathOk, dataM, lcF, itemM, sortCs, insCs, dedup, strD, sums, hi]
theorem okW {w : Cs} (hw : Wd w) (n : Nat) : okP (.str w) n = true := by
  have := hw.1
  have e : okP (.str w) n = (w.all (fun c => decide (c < 1114112)) && decide (w.length ≤ sizeMax)) := by cases n <;> rfl
  have h : w.length ≤ sizeMax := by unfold sizeMax; omega
  rw [e, hw.2, decide_eq_true h]
  rfl
theorem log1 : Nat.log2 1 = 0 := by decide
theorem sum0 (n : Nat) (i : Int) (hi : i.natAbs.log2 < 1920) (hl : (intCs i).length ≤ 900000) : callN pg 1000 (n + 1) "summand_text" [.d (.tup []), .d (.int i)] = some (.ok (.d (.str (intCs i))), [some (.d (.tup [])), some (.d (.int i))]) := by
  have e0 : getFn "summand_text" pg.fns = some f_summand_text := rfl
  have hl1 : (intCs i).length ≤ 1000000 := by omega
  have hl2 : (intCs i).length ≤ 999999 := by omega
  rw [callN_cx e0 rfl]
  by_cases h1 : i = 1
  · subst h1
    simp [f_summand_text, l_summand_text_1, lentIx, isD, exs, ex, ev, evs, evt, evi, evc, argM, itemM, M.bind, M.pure, M.opt, M.lift, M.fail, M.quiet, argsD, argD, R.val, getL, getP, getI, putL, putP, modL, setAt, prim, arith, arithI, cmpD, okB, okd, okw, okS, guardR, truthD, bindT, bindTs, setSlot, R.frz, divOk, mulOk, powOk, moveI, shareL, outsOf, callM, takeA, giveA, walkS, walkM, keepM, maskE, restE, varsT, varsTs, dicSrc, isLoc, unlockL, itemsN, itemsD, itemsT, strsOf, quietIf, fixC, ofRange, isOne, inD, sizeMax, lcF, itemM, strD, okP, okPs, eqD, eqDs, joinCs, shareA, log1, hi, hl1, hl2]
  · simp [f_summand_text, l_summand_text_1, lentIx, isD, exs, ex, ev, evs, evt, evi, evc, argM, itemM, M.bind, M.pure, M.opt, M.lift, M.fail, M.quiet, argsD, argD, R.val, getL, getP, getI, putL, putP, modL, setAt, prim, arith, arithI, cmpD, okB, okd, okw, okS, guardR, truthD, bindT, bindTs, setSlot, R.frz, divOk, mulOk, powOk, moveI, shareL, outsOf, callM, takeA, giveA, walkS, walkM, keepM, maskE, restE, varsT, varsTs, dicSrc, isLoc, unlockL, itemsN, itemsD, itemsT, strsOf, quietIf, fixC, ofRange, isOne, inD, sizeMax, lcF, itemM, strD, okP, okPs, eqD, eqDs, joinCs, shareA, hi, hl1, hl2, h1]
theorem sum1 (n : Nat) (w : Cs) (hw : Wd w) : callN pg 1000 (n + 1) "summand_text" [.d (.tup [.str w]), .d (.int 1)] = some (.ok (.d (.str w)), [some (.d (.tup [.str w])), some (.d (.int 1))]) := by
  have e0 : getFn "summand_text" pg.fns = some f_summand_text := rfl
  have h1 : w.length ≤ 1000000 := by have := hw.1; omega
  have h2 := hw.2
  have h3 : w.length ≤ 999999 := by have := hw.1; omega
  simp only [List.all_eq_true, decide_eq_true_eq] at h2
  rw [callN_cx e0 rfl]
  simp [f_summand_text, l_summand_text_1, lentIx, isD, exs, ex, ev, evs, evt, evi, evc, argM, itemM, M.bind, M.pure, M.opt, M.lift, M.fail, M.quiet, argsD, argD, R.val, getL, getP, getI, putL, putP, modL, setAt, prim, arith, arithI, cmpD, okB, okd, okw, okS, guardR, truthD, bindT, bindTs, setSlot, R.frz, divOk, mulOk, powOk, moveI, shareL, outsOf, callM, takeA, giveA, walkS, walkM, keepM, maskE, restE, varsT, varsTs, dicSrc, isLoc, unlockL, itemsN, itemsD, itemsT, strsOf, quietIf, fixC, ofRange, isOne, inD, sizeMax, lcF, itemM, strD, okP, okPs, eqD, eqDs, joinCs, shareA, h1, ↓okW hw, h3]
/-- what str gives -/
def txt (w : Option Cs) (i : Int) : Cs := if 0 < i then (match w with | none => intCs i | some w => w) else [48]
theorem strA (n : Nat) (w : Option Cs) (hw : ∀ x, w = some x → Wd x) (i : Int) (hi : i.natAbs.log2 < 1920) (hl : (intCs i).length ≤ 900000) (h1 : w ≠ none → i = 1) : callN pg 1000 (n + 2) "Amount.__str__" [.d (amt w i)] = some (.ok (.d (.str (txt w i))), [some (.d (amt w i))]) := by
  have e0 : getFn "Amount.__str__" pg.fns = some f_Amount___str__ := rfl
  have hx : pg.own = ["Amount"] := rfl
  have hx1 : getFn "Amount.sums" pg.fns = none := rfl
  rw [callN_cx e0 rfl]
  by_cases hi0 : 0 < i
  · cases w with
    | none =>
      have h := sum0 n i hi hl
      have hl1 : (intCs i).length ≤ 1000000 := by omega
      have hl2 : (intCs i).length ≤ 999999 := by omega
      simp [f_Amount___str__, l_Amount___str___1, lentIx, isD, exs, ex, ev, evs, evt, evi, evc, argM, itemM, M.bind, M.pure, M.opt, M.lift, M.fail, M.quiet, argsD, argD, R.val, getL, getP, getI, putL, putP, modL, setAt, prim, arith, arithI, cmpD, okB, okd, okw, okS, guardR, truthD, bindT, bindTs, setSlot, R.frz, divOk, mulOk, powOk, moveI, shareL, outsOf, callM, takeA, giveA, walkS, walkM, keepM, maskE, restE, varsT, varsTs, dicSrc, isLoc, unlockL, itemsN, itemsD, itemsT, strsOf, quietIf, fixC, ofRange, isOne, inD, sizeMax, amt, txt, sums, hi0, hx, hx1, getFR, getF, peekM, pathOk, dataM, lcF, itemM, okP, okPs, eqD, eqDs, joinCs, h, hl1, hl2]
    | some w =>
      have : i = 1 := h1 (by simp)
      subst this
      have h := sum1 n w (hw w rfl)
      have h2 := (hw w rfl).2
      have h1 : w.length ≤ 1000000 := by have := (hw w rfl).1; omega
      have h3 : w.length ≤ 999999 := by have := (hw w rfl).1; omega
      simp only [List.all_eq_true, decide_eq_true_eq] at h2
      simp [f_Amount___str__, l_Amount___str___1, lentIx, isD, exs, ex, ev, evs, evt, evi, evc, argM, itemM, M.bind, M.pure, M.opt, M.lift, M.fail, M.quiet, argsD, argD, R.val, getL, getP, getI, putL, putP, modL, setAt, prim, arith, arithI, cmpD, okB, okd, okw, okS, guardR, truthD, bindT, bindTs, setSlot, R.frz, divOk, mulOk, powOk, moveI, shareL, outsOf, callM, takeA, giveA, walkS, walkM, keepM, maskE, restE, varsT, varsTs, dicSrc, isLoc, unlockL, itemsN, itemsD, itemsT, strsOf, quietIf, fixC, ofRange, isOne, inD, sizeMax, amt, txt, sums, hx, hx1, getFR, getF, peekM, pathOk, dataM, lcF, itemM, okP, okPs, eqD, eqDs, joinCs, h, h1, ↓okW (hw w rfl), h3]
  · simp [f_Amount___str__, l_Amount___str___1, lentIx, isD, exs, ex, ev, evs, evt, evi, evc, argM, itemM, M.bind, M.pure, M.opt, M.lift, M.fail, M.quiet, argsD, argD, R.val, getL, getP, getI, putL, putP, modL, setAt, prim, arith, arithI, cmpD, okB, okd, okw, okS, guardR, truthD, bindT, bindTs, setSlot, R.frz, divOk, mulOk, powOk, moveI, shareL, outsOf, callM, takeA, giveA, walkS, walkM, keepM, maskE, restE, varsT, varsTs, dicSrc, isLoc, unlockL, itemsN, itemsD, itemsT, strsOf, quietIf, fixC, ofRange, isOne, inD, sizeMax, amt, txt, sums, hi0, hx, hx1, getFR, getF, peekM, pathOk, dataM, lcF, itemM, okP, okPs, eqD, eqDs, joinCs]
theorem of_ (n : Nat) (v : D) (hv : Val v) : callN pg 1000 (n + 4) "Amount.of" [.d v] = some (match v with | .int i => if 0 ≤ i then .ok (.d (amt none i)) else .ex ⟨"InvalidAmount", []⟩ | _ => .ex ⟨"InvalidAmount", []⟩, [some (.d v)]) := by
  have e0 : getFn "Amount.of" pg.fns = some f_Amount_of := rfl
  have h := is_whole (n + 1) v hv
  have hx : getFn "InvalidAmount.__init__" pg.fns = none := rfl
  rw [callN_cx e0 rfl]
  cases hv with
  | int i hi =>
    have hn := init n none (by simp) i
    by_cases h0 : 0 ≤ i
    · simp only [whole, h0, decide_true, Option.toList, List.map_nil] at h hn
      simp [f_Amount_of, lentIx, isD, exs, ex, ev, evs, evt, evi, evc, argM, itemM, M.bind, M.pure, M.opt, M.lift, M.fail, M.quiet, argsD, argD, R.val, getL, getP, getI, putL, putP, modL, setAt, prim, arith, arithI, cmpD, okB, okd, okw, okS, guardR, truthD, bindT, bindTs, setSlot, R.frz, divOk, mulOk, powOk, moveI, shareL, outsOf, callM, takeA, giveA, walkS, walkM, keepM, maskE, restE, varsT, varsTs, dicSrc, isLoc, unlockL, itemsN, itemsD, itemsT, strsOf, quietIf, fixC, ofRange, isOne, inD, sizeMax, h, h0, hn, hx, evk, evm, pairM, dPut, isKey, isDstar, amt, R.frzs, R.frzp]
    · simp only [whole, h0, decide_false] at h
      simp [f_Amount_of, lentIx, isD, exs, ex, ev, evs, evt, evi, evc, argM, itemM, M.bind, M.pure, M.opt, M.lift, M.fail, M.quiet, argsD, argD, R.val, getL, getP, getI, putL, putP, modL, setAt, prim, arith, arithI, cmpD, okB, okd, okw, okS, guardR, truthD, bindT, bindTs, setSlot, R.frz, divOk, mulOk, powOk, moveI, shareL, outsOf, callM, takeA, giveA, walkS, walkM, keepM, maskE, restE, varsT, varsTs, dicSrc, isLoc, unlockL, itemsN, itemsD, itemsT, strsOf, quietIf, fixC, ofRange, isOne, inD, sizeMax, h, h0, hx]
  | _ =>
    simp only [whole] at h
    simp [f_Amount_of, lentIx, isD, exs, ex, ev, evs, evt, evi, evc, argM, itemM, M.bind, M.pure, M.opt, M.lift, M.fail, M.quiet, argsD, argD, R.val, getL, getP, getI, putL, putP, modL, setAt, prim, arith, arithI, cmpD, okB, okd, okw, okS, guardR, truthD, bindT, bindTs, setSlot, R.frz, divOk, mulOk, powOk, moveI, shareL, outsOf, callM, takeA, giveA, walkS, walkM, keepM, maskE, restE, varsT, varsTs, dicSrc, isLoc, unlockL, itemsN, itemsD, itemsT, strsOf, quietIf, fixC, ofRange, isOne, inD, sizeMax, h, hx]
theorem named (n : Nat) (v : D) (hv : Val v) : callN pg 1000 (n + 4) "Amount.named" [.d v] = some (match v with | .str w => if nameB w then .ok (.d (amt (some w) 1)) else .ex ⟨"InvalidAmount", []⟩ | _ => .ex ⟨"InvalidAmount", []⟩, [some (.d v)]) := by
  have e0 : getFn "Amount.named" pg.fns = some f_Amount_named := rfl
  have h := is_name (n + 2) v hv
  have hx : getFn "InvalidAmount.__init__" pg.fns = none := rfl
  rw [callN_cx e0 rfl]
  cases hv with
  | str w hw =>
    have hn := init n (some w) (by simpa using hw) 1
    cases h0 : nameB w with
    | true =>
      simp only [nm, h0, Option.toList, List.map_cons, List.map_nil] at h hn
      simp [f_Amount_named, lentIx, isD, exs, ex, ev, evs, evt, evi, evc, argM, itemM, M.bind, M.pure, M.opt, M.lift, M.fail, M.quiet, argsD, argD, R.val, getL, getP, getI, putL, putP, modL, setAt, prim, arith, arithI, cmpD, okB, okd, okw, okS, guardR, truthD, bindT, bindTs, setSlot, R.frz, divOk, mulOk, powOk, moveI, shareL, outsOf, callM, takeA, giveA, walkS, walkM, keepM, maskE, restE, varsT, varsTs, dicSrc, isLoc, unlockL, itemsN, itemsD, itemsT, strsOf, quietIf, fixC, ofRange, isOne, inD, sizeMax, h, h0, hn, hx, evk, evm, pairM, dPut, isKey, flatKey, isDstar, amt, R.frzs, R.frzp]
    | false =>
      simp only [nm, h0] at h
      simp [f_Amount_named, lentIx, isD, exs, ex, ev, evs, evt, evi, evc, argM, itemM, M.bind, M.pure, M.opt, M.lift, M.fail, M.quiet, argsD, argD, R.val, getL, getP, getI, putL, putP, modL, setAt, prim, arith, arithI, cmpD, okB, okd, okw, okS, guardR, truthD, bindT, bindTs, setSlot, R.frz, divOk, mulOk, powOk, moveI, shareL, outsOf, callM, takeA, giveA, walkS, walkM, keepM, maskE, restE, varsT, varsTs, dicSrc, isLoc, unlockL, itemsN, itemsD, itemsT, strsOf, quietIf, fixC, ofRange, isOne, inD, sizeMax, h, h0, hx]
  | _ =>
    simp only [nm] at h
    simp [f_Amount_named, lentIx, isD, exs, ex, ev, evs, evt, evi, evc, argM, itemM, M.bind, M.pure, M.opt, M.lift, M.fail, M.quiet, argsD, argD, R.val, getL, getP, getI, putL, putP, modL, setAt, prim, arith, arithI, cmpD, okB, okd, okw, okS, guardR, truthD, bindT, bindTs, setSlot, R.frz, divOk, mulOk, powOk, moveI, shareL, outsOf, callM, takeA, giveA, walkS, walkM, keepM, maskE, restE, varsT, varsTs, dicSrc, isLoc, unlockL, itemsN, itemsD, itemsT, strsOf, quietIf, fixC, ofRange, isOne, inD, sizeMax, h, hx]
end K03
namespace K03
open Mini
theorem chr_lt (c : Char) : c.toNat < 1114112 := by
  have h : Nat.isValidChar c.toNat := c.valid
  rcases h with h | ⟨_, h⟩ <;> omega
theorem int_sm {i : Int} (h : i.natAbs ≤ 10 ^ 30) : i.natAbs.log2 < 1920 ∧ (intCs i).length ≤ 900000 ∧ ∀ n, okP (.str (intCs i)) n = true := by
  have h1 : i.natAbs < 10 ^ 31 := Nat.lt_of_le_of_lt h (by decide)
  have hl : (intCs i).length ≤ 900000 := by
    have e := PySem.int_text_length_le10 (k := 31) (by decide) h1
    have e2 : (PySem.Str.ofString (toString i)).length = (toS (intCs i)).length := by rw [toS_int]
    rw [toS_len, PySem.ofString_length] at e2
    omega
  refine ⟨?_, hl, fun n => ?_⟩
  · by_cases h0 : i.natAbs = 0
    · rw [h0]; decide
    · exact Nat.lt_trans ((Nat.log2_lt h0).mpr (Nat.lt_of_lt_of_le h1 (by decide : 10 ^ 31 ≤ 2 ^ 200))) (by decide)
  · have e : okP (.str (intCs i)) n = ((intCs i).all (fun c => decide (c < 1114112)) && decide ((intCs i).length ≤ sizeMax)) := by cases n <;> rfl
    have h : (intCs i).length ≤ sizeMax := by unfold sizeMax; omega
    rw [e, decide_eq_true h, Bool.and_true, List.all_eq_true]
    intro c hc
    have : ∀ m : Nat, ∀ c ∈ natCs m, c < 1114112 := fun m c hc => by
      unfold natCs at hc
      obtain ⟨d, _, rfl⟩ := List.mem_map.mp hc
      exact chr_lt d
    unfold intCs at hc
    split at hc
    · rcases List.mem_cons.mp hc with rfl | hc
      · decide
      · exact decide_eq_true (this _ c hc)
    · exact decide_eq_true (this _ c hc)
def refused : D := .tup [.str [114, 101, 102, 117, 115, 101, 100], .bl true, .bl false]
/-- what the law's own look at Amount.of gives -/
def mOf : D → D
  | .int i => if 0 ≤ i then .str (intCs i) else refused
  | _ => refused
def mNm : D → D
  | .str w => if nameB w then .str w else refused
  | _ => refused
theorem i0 : intCs 0 = [48] := by decide +kernel
theorem txt_of {i : Int} (h : 0 ≤ i) : txt none i = intCs i := by
  unfold txt
  by_cases h0 : 0 < i
  · rw [if_pos h0]
  · have : i = 0 := by omega
    subst this
    rw [if_neg h0, i0]
theorem strD_amt {c : Ctx} {w : Option Cs} {i : Int} : strD c (amt w i) = match ask1 c "Amount.__str__" [amt w i] with | some (.ok (.str s)) => some (.ok (.str s)) | _ => none := rfl
theorem made_of (n : Nat) (v : D) (hv : Val v) : callN pg 1000 (n + 6) "_law_made" [.d (.str [111, 102]), .d v] = some (.ok (.d (mOf v)), [some (.d (.str [111, 102])), some (.d v)]) := by
  have e0 : getFn "_law_made" pg.fns = some f__law_made := rfl
  have h := of_ (n + 1) v hv
  have hx : pg.exc = ["AskError", "InvalidAmount", "InvalidProgram", "Open"] := rfl
  have hs : getCls "InvalidAmount" pg.cls = ["AskError", "ValueError", "Exception", "BaseException"] := rfl
  rw [callN_cx e0 rfl]
  cases hv with
  | int i hi =>
    obtain ⟨g1, g2, g3⟩ := int_sm hi
    by_cases h0 : 0 ≤ i
    · have ht := strA (n + 2) none (by simp) i g1 g2 (by simp)
      rw [txt_of h0] at ht
      simp only [h0, if_true] at h
      simp [f__law_made, lentIx, isD, exs, ex, ev, evs, evt, evi, evc, argM, itemM, M.bind, M.pure, M.opt, M.lift, M.fail, M.quiet, argsD, argD, R.val, getL, getP, getI, putL, putP, modL, setAt, prim, arith, arithI, cmpD, okB, okd, okw, okS, guardR, truthD, bindT, bindTs, setSlot, R.frz, divOk, mulOk, powOk, moveI, shareL, outsOf, callM, takeA, giveA, walkS, walkM, keepM, maskE, restE, varsT, varsTs, dicSrc, isLoc, unlockL, itemsN, itemsD, itemsT, strsOf, quietIf, fixC, ofRange, isOne, inD, sizeMax, h, ht, mOf, h0, strD_amt, ask1, okP, okPs, eqD]
    · simp only [h0, if_false] at h
      simp [f__law_made, lentIx, isD, exs, ex, ev, evs, evt, evi, evc, argM, itemM, M.bind, M.pure, M.opt, M.lift, M.fail, M.quiet, argsD, argD, R.val, getL, getP, getI, putL, putP, modL, setAt, prim, arith, arithI, cmpD, okB, okd, okw, okS, guardR, truthD, bindT, bindTs, setSlot, R.frz, divOk, mulOk, powOk, moveI, shareL, outsOf, callM, takeA, giveA, walkS, walkM, keepM, maskE, restE, varsT, varsTs, dicSrc, isLoc, unlockL, itemsN, itemsD, itemsT, strsOf, quietIf, fixC, ofRange, isOne, inD, sizeMax, h, hx, hs, mOf, h0, okP, okPs, eqD, refused, M.quiet]
  | _ =>
    simp only at h
    simp [f__law_made, lentIx, isD, exs, ex, ev, evs, evt, evi, evc, argM, itemM, M.bind, M.pure, M.opt, M.lift, M.fail, M.quiet, argsD, argD, R.val, getL, getP, getI, putL, putP, modL, setAt, prim, arith, arithI, cmpD, okB, okd, okw, okS, guardR, truthD, bindT, bindTs, setSlot, R.frz, divOk, mulOk, powOk, moveI, shareL, outsOf, callM, takeA, giveA, walkS, walkM, keepM, maskE, restE, varsT, varsTs, dicSrc, isLoc, unlockL, itemsN, itemsD, itemsT, strsOf, quietIf, fixC, ofRange, isOne, inD, sizeMax, h, hx, hs, mOf, okP, okPs, eqD, refused]
theorem made_nm (n : Nat) (v : D) (hv : Val v) : callN pg 1000 (n + 6) "_law_made" [.d (.str [110, 97, 109, 101, 100]), .d v] = some (.ok (.d (mNm v)), [some (.d (.str [110, 97, 109, 101, 100])), some (.d v)]) := by
  have e0 : getFn "_law_made" pg.fns = some f__law_made := rfl
  have h := named (n + 1) v hv
  have hx : pg.exc = ["AskError", "InvalidAmount", "InvalidProgram", "Open"] := rfl
  have hs : getCls "InvalidAmount" pg.cls = ["AskError", "ValueError", "Exception", "BaseException"] := rfl
  rw [callN_cx e0 rfl]
  cases hv with
  | str w hw =>
    cases h0 : nameB w with
    | true =>
      have ht := strA (n + 2) (some w) (by simpa using hw) 1 (by decide) (int_sm (by decide)).2.1 (by simp)
      have etx : txt (some w) 1 = w := rfl
      rw [etx] at ht
      simp only [h0, if_true] at h
      simp [f__law_made, lentIx, isD, exs, ex, ev, evs, evt, evi, evc, argM, itemM, M.bind, M.pure, M.opt, M.lift, M.fail, M.quiet, argsD, argD, R.val, getL, getP, getI, putL, putP, modL, setAt, prim, arith, arithI, cmpD, okB, okd, okw, okS, guardR, truthD, bindT, bindTs, setSlot, R.frz, divOk, mulOk, powOk, moveI, shareL, outsOf, callM, takeA, giveA, walkS, walkM, keepM, maskE, restE, varsT, varsTs, dicSrc, isLoc, unlockL, itemsN, itemsD, itemsT, strsOf, quietIf, fixC, ofRange, isOne, inD, sizeMax, h, ht, mNm, h0, strD_amt, ask1, okP, okPs, eqD]
    | false =>
      simp only [h0, if_false] at h
      simp [f__law_made, lentIx, isD, exs, ex, ev, evs, evt, evi, evc, argM, itemM, M.bind, M.pure, M.opt, M.lift, M.fail, M.quiet, argsD, argD, R.val, getL, getP, getI, putL, putP, modL, setAt, prim, arith, arithI, cmpD, okB, okd, okw, okS, guardR, truthD, bindT, bindTs, setSlot, R.frz, divOk, mulOk, powOk, moveI, shareL, outsOf, callM, takeA, giveA, walkS, walkM, keepM, maskE, restE, varsT, varsTs, dicSrc, isLoc, unlockL, itemsN, itemsD, itemsT, strsOf, quietIf, fixC, ofRange, isOne, inD, sizeMax, h, hx, hs, mNm, h0, okP, okPs, eqD, refused]
  | _ =>
    simp only at h
    simp [f__law_made, lentIx, isD, exs, ex, ev, evs, evt, evi, evc, argM, itemM, M.bind, M.pure, M.opt, M.lift, M.fail, M.quiet, argsD, argD, R.val, getL, getP, getI, putL, putP, modL, setAt, prim, arith, arithI, cmpD, okB, okd, okw, okS, guardR, truthD, bindT, bindTs, setSlot, R.frz, divOk, mulOk, powOk, moveI, shareL, outsOf, callM, takeA, giveA, walkS, walkM, keepM, maskE, restE, varsT, varsTs, dicSrc, isLoc, unlockL, itemsN, itemsD, itemsT, strsOf, quietIf, fixC, ofRange, isOne, inD, sizeMax, h, hx, hs, mNm, okP, okPs, eqD, refused]
end K03
namespace K03
open Mini
theorem nums_mem : ∀ {n : Nat} {a : Int} {d : D}, d ∈ nums a n → ∃ j : Int, d = .int j ∧ a ≤ j ∧ j < a + n
  | 0, _, _, h => by cases h
  | n + 1, a, d, h => by
    rcases List.mem_cons.mp h with rfl | h
    · exact ⟨a, rfl, by omega, by omega⟩
    · obtain ⟨j, rfl, h1, h2⟩ := nums_mem h
      exact ⟨j, rfl, by omega, by omega⟩
theorem ix_map {c : Ctx} (ns : List Int) {j : Int} (h0 : 0 ≤ j) (h1 : j < ns.length) : ∃ z : Int, ixD c (.lst (ns.map D.int)) (.int j) = some (.ok (.d (.int z))) := by
  obtain ⟨v, hv, h⟩ := ix_mem (c := c) (L := ns.map D.int) h0 (by simpa using h1)
  obtain ⟨z, _, rfl⟩ := List.mem_map.mp hv
  exact ⟨z, h⟩
theorem box (n : Nat) (ns : List Int) (j : Int) (h0 : 0 ≤ j) : ∃ b, callN pg 1000 (n + 1) "_law_box" [.d (.lst (ns.map D.int)), .d (.int j)] = some (.ok (B b), [some (.d (.lst (ns.map D.int))), some (.d (.int j))]) := by
  have e0 : getFn "_law_box" pg.fns = some f__law_box := rfl
  have pick : ∀ z : Int, ∃ y : Int, ixD (cx n []) (.lst [.int 0, .int z]) (.int (if 1000000000000000000 ≤ z then 1 else 0)) = some (.ok (.d (.int y))) := fun z => by
    by_cases h : 1000000000000000000 ≤ z
    · rw [if_pos h]; exact ⟨z, rfl⟩
    · rw [if_neg h]; exact ⟨0, rfl⟩
  by_cases h1 : j < ns.length
  · obtain ⟨z, hz⟩ := ix_map (c := cx n []) ns h0 h1
    obtain ⟨y, hy⟩ := pick z
    refine ⟨(y, (z % 2147483629 * 48271 + 40693 * j) % 2147483629 + 1, 0), ?_⟩
    rw [callN_cx e0 rfl]
    simp [f__law_box, lentIx, isD, exs, ex, ev, evs, evt, evi, evc, argM, itemM, M.bind, M.pure, M.opt, M.lift, M.fail, M.quiet, argsD, argD, R.val, getL, getP, getI, putL, putP, modL, setAt, prim, arith, arithI, cmpD, okB, okd, okw, okS, guardR, truthD, bindT, bindTs, setSlot, R.frz, divOk, mulOk, powOk, moveI, shareL, outsOf, callM, takeA, giveA, walkS, walkM, keepM, maskE, restE, varsT, varsTs, dicSrc, isLoc, unlockL, itemsN, itemsD, itemsT, strsOf, quietIf, fixC, ofRange, isOne, inD, sizeMax, hz, hy, h1]
  · by_cases h2 : 0 < ns.length
    · have h3 : 0 ≤ j % (ns.length : Int) := Int.emod_nonneg _ (by omega)
      have h4 : j % (ns.length : Int) < ns.length := Int.emod_lt_of_pos _ (by omega)
      obtain ⟨z, hz⟩ := ix_map (c := cx n []) ns h3 h4
      obtain ⟨y, hy⟩ := pick (6007 * j + 41 + z % 2147483629 * 69491)
      refine ⟨(y, ((6007 * j + 41 + z % 2147483629 * 69491) % 2147483629 * 48271 + 40693 * j) % 2147483629 + 1, 0), ?_⟩
      rw [callN_cx e0 rfl]
      simp [f__law_box, lentIx, isD, exs, ex, ev, evs, evt, evi, evc, argM, itemM, M.bind, M.pure, M.opt, M.lift, M.fail, M.quiet, argsD, argD, R.val, getL, getP, getI, putL, putP, modL, setAt, prim, arith, arithI, cmpD, okB, okd, okw, okS, guardR, truthD, bindT, bindTs, setSlot, R.frz, divOk, mulOk, powOk, moveI, shareL, outsOf, callM, takeA, giveA, walkS, walkM, keepM, maskE, restE, varsT, varsTs, dicSrc, isLoc, unlockL, itemsN, itemsD, itemsT, strsOf, quietIf, fixC, ofRange, isOne, inD, sizeMax, hz, hy, h1, h2]
    · obtain ⟨y, hy⟩ := pick (6007 * j + 41)
      refine ⟨(y, ((6007 * j + 41) % 2147483629 * 48271 + 40693 * j) % 2147483629 + 1, 0), ?_⟩
      rw [callN_cx e0 rfl]
      simp [f__law_box, lentIx, isD, exs, ex, ev, evs, evt, evi, evc, argM, itemM, M.bind, M.pure, M.opt, M.lift, M.fail, M.quiet, argsD, argD, R.val, getL, getP, getI, putL, putP, modL, setAt, prim, arith, arithI, cmpD, okB, okd, okw, okS, guardR, truthD, bindT, bindTs, setSlot, R.frz, divOk, mulOk, powOk, moveI, shareL, outsOf, callM, takeA, giveA, walkS, walkM, keepM, maskE, restE, varsT, varsTs, dicSrc, isLoc, unlockL, itemsN, itemsD, itemsT, strsOf, quietIf, fixC, ofRange, isOne, inD, sizeMax, hy, h1, h2]
theorem forF_inv {bnd : D → Env → Option Env} {body : M Fl} (I : Env → Prop) : ∀ (l : List D), (∀ d e, d ∈ l → I e → ∃ e1 e2, bnd d e = some e1 ∧ body e1 = some (.ok .nx, e2) ∧ I e2) → ∀ e, I e → ∃ e2, forF bnd body l e = some (.ok .nx, e2) ∧ I e2
  | [], _, e, h => ⟨e, rfl, h⟩
  | d :: l, hs, e, h => by
    obtain ⟨e1, e2, h1, h2, h3⟩ := hs d e (by simp) h
    obtain ⟨e3, k1, k2⟩ := forF_inv I l (fun d e hd => hs d e (by simp [hd])) e2 h3
    exact ⟨e3, by simp [forF, h1, M.bind, h2, k1], k2⟩
theorem for_eval {c : Ctx} {t : T} {src : E} {b : List S} {ρ ρ1 ρ2 : Env} {x : R} {l : List D} (hl : isLoc src = false) (hd : dicSrc src = false) (hsrc : ev c src ρ = some (.ok x, ρ1)) (hi : itemsN x.frz = some l)
    (hf : forF (fun d => bindT c t (.d d)) (exs c b) l ρ1 = some (.ok .nx, ρ2)) : Mini.ex c (.for_ t src b) ρ = some (.ok .nx, ρ2) := by
  have hw : walkS src (ev c src) ρ = some (.ok (l, none), ρ1) := by
    cases src <;> first | (cases hl; done) | (simp only [walkS, M.bind, hsrc, hd, Bool.false_eq_true, if_false, M.opt, hi, M.pure]; done) | (cases hd; done)
  have hc : fixC c src = c := by cases src <;> first | rfl | (cases hl; done)
  simp only [Mini.ex, quietIf, hd, Bool.false_eq_true, if_false, walkM, M.bind, hw, hc, hf, unlockL]
end K03
namespace K03
open Mini
def body1 : List S := match l_law_1 with | .for_ _ _ b => b | _ => []
def body2 : List S := match l_law_2 with | .for_ _ _ b => b | _ => []
theorem i5 : intCs 5 = [53] := by decide +kernel
theorem made5 : callN pg 1000 9 "_law_made" [.d (.str [111, 102]), .d (.int 5)] = some (.ok (.d (.str [53])), [some (.d (.str [111, 102])), some (.d (.int 5))]) := by
  have h := made_of 3 (.int 5) (.int 5 (by decide))
  have e : mOf (.int 5) = .str [53] := by simp only [mOf]; rw [if_pos (by decide), i5]
  rw [e] at h
  exact h
theorem madeN : callN pg 1000 9 "_law_made" [.d (.str [110, 97, 109, 101, 100]), .d (.str [110])] = some (.ok (.d (.str [110])), [some (.d (.str [110, 97, 109, 101, 100])), some (.d (.str [110]))]) := by
  have h := made_nm 3 (.str [110]) (.str [110] ⟨by decide, by decide⟩)
  have e : mNm (.str [110]) = .str [110] := rfl
  rw [e] at h
  exact h
theorem turn (L : D) (j : Int) (d : D) (e : Env) (h : ∃ b x3 x4 x5 x6, e = [some (.d L), some (.d (.int j)), some (B b), x3, x4, x5, x6]) :
    ∃ e1 e2, bindT (cx 9 []) (.v 3) (.d d) e = some e1 ∧ exs (cx 9 []) body1 e1 = some (.ok .nx, e2) ∧ ∃ b x3 x4 x5 x6, e2 = [some (.d L), some (.d (.int j)), some (B b), x3, x4, x5, x6] := by
  obtain ⟨b, x3, x4, x5, x6, rfl⟩ := h
  obtain ⟨v, b2, hv, ha⟩ := any 6 b
  have h1 := made_of 3 v hv
  have h2 := made_nm 3 v hv
  have h3 := law_is_name 8 v hv
  have h5 := made5
  have h6 := madeN
  have hx : pg.own = ["Amount"] := rfl
  refine ⟨[some (.d L), some (.d (.int j)), some (B b), some (.d d), x4, x5, x6], [some (.d L), some (.d (.int j)), some (B b2), some (.d d), some (.d v), some (.d (.bl (whole v))), some (.d refused)], by simp [bindT, setSlot], ?_, _, _, _, _, _, rfl⟩
  cases hv with
  | int i hi =>
    obtain ⟨g1, g2, g3⟩ := int_sm hi
    by_cases h0 : 0 ≤ i
    · simp only [mOf, mNm, nm, h0, if_true] at h1 h2 h3
      simp [body1, l_law_1, lentIx, isD, exs, ex, ev, evs, evt, evi, evc, argM, itemM, M.bind, M.pure, M.opt, M.lift, M.fail, M.quiet, argsD, argD, R.val, getL, getP, getI, putL, putP, modL, setAt, prim, arith, arithI, cmpD, okB, okd, okw, okS, guardR, truthD, bindT, bindTs, setSlot, R.frz, divOk, mulOk, powOk, moveI, shareL, outsOf, callM, takeA, giveA, walkS, walkM, keepM, maskE, restE, varsT, varsTs, dicSrc, isLoc, unlockL, itemsN, itemsD, itemsT, strsOf, quietIf, fixC, ofRange, isOne, inD, sizeMax, ha, h1, h2, h3, h5, h6, whole, h0, strD, g1, ↓g3, refused, okP, okPs, eqD, eqDs]
    · simp only [mOf, mNm, nm, h0, if_false] at h1 h2 h3
      simp [body1, l_law_1, lentIx, isD, exs, ex, ev, evs, evt, evi, evc, argM, itemM, M.bind, M.pure, M.opt, M.lift, M.fail, M.quiet, argsD, argD, R.val, getL, getP, getI, putL, putP, modL, setAt, prim, arith, arithI, cmpD, okB, okd, okw, okS, guardR, truthD, bindT, bindTs, setSlot, R.frz, divOk, mulOk, powOk, moveI, shareL, outsOf, callM, takeA, giveA, walkS, walkM, keepM, maskE, restE, varsT, varsTs, dicSrc, isLoc, unlockL, itemsN, itemsD, itemsT, strsOf, quietIf, fixC, ofRange, isOne, inD, sizeMax, ha, h1, h2, h3, h5, h6, whole, h0, refused, okP, okPs, eqD, eqDs]
  | str w hw =>
    cases h0 : nameB w with
    | true =>
      simp only [mOf, mNm, nm, h0, if_true] at h1 h2 h3
      simp [body1, l_law_1, lentIx, isD, exs, ex, ev, evs, evt, evi, evc, argM, itemM, M.bind, M.pure, M.opt, M.lift, M.fail, M.quiet, argsD, argD, R.val, getL, getP, getI, putL, putP, modL, setAt, prim, arith, arithI, cmpD, okB, okd, okw, okS, guardR, truthD, bindT, bindTs, setSlot, R.frz, divOk, mulOk, powOk, moveI, shareL, outsOf, callM, takeA, giveA, walkS, walkM, keepM, maskE, restE, varsT, varsTs, dicSrc, isLoc, unlockL, itemsN, itemsD, itemsT, strsOf, quietIf, fixC, ofRange, isOne, inD, sizeMax, ha, h1, h2, h3, h5, h6, whole, h0, ↓okW hw, refused, okP, okPs, eqD, eqDs]
    | false =>
      simp only [mOf, mNm, nm, h0, if_false] at h1 h2 h3
      simp [body1, l_law_1, lentIx, isD, exs, ex, ev, evs, evt, evi, evc, argM, itemM, M.bind, M.pure, M.opt, M.lift, M.fail, M.quiet, argsD, argD, R.val, getL, getP, getI, putL, putP, modL, setAt, prim, arith, arithI, cmpD, okB, okd, okw, okS, guardR, truthD, bindT, bindTs, setSlot, R.frz, divOk, mulOk, powOk, moveI, shareL, outsOf, callM, takeA, giveA, walkS, walkM, keepM, maskE, restE, varsT, varsTs, dicSrc, isLoc, unlockL, itemsN, itemsD, itemsT, strsOf, quietIf, fixC, ofRange, isOne, inD, sizeMax, ha, h1, h2, h3, h5, h6, whole, h0, refused, okP, okPs, eqD, eqDs]
  | _ =>
    simp only [mOf, mNm, nm] at h1 h2 h3
    simp [body1, l_law_1, lentIx, isD, exs, ex, ev, evs, evt, evi, evc, argM, itemM, M.bind, M.pure, M.opt, M.lift, M.fail, M.quiet, argsD, argD, R.val, getL, getP, getI, putL, putP, modL, setAt, prim, arith, arithI, cmpD, okB, okd, okw, okS, guardR, truthD, bindT, bindTs, setSlot, R.frz, divOk, mulOk, powOk, moveI, shareL, outsOf, callM, takeA, giveA, walkS, walkM, keepM, maskE, restE, varsT, varsTs, dicSrc, isLoc, unlockL, itemsN, itemsD, itemsT, strsOf, quietIf, fixC, ofRange, isOne, inD, sizeMax, ha, h1, h2, h3, h5, h6, whole, refused, okP, okPs, eqD, eqDs]
end K03
namespace K03
open Mini
theorem loop1 (L : D) (j : Int) (e : Env) (h : ∃ b x3 x4 x5 x6, e = [some (.d L), some (.d (.int j)), some (B b), x3, x4, x5, x6]) :
    ∃ e2, Mini.ex (cx 9 []) l_law_1 e = some (.ok .nx, e2) ∧ ∃ b x3 x4 x5 x6, e2 = [some (.d L), some (.d (.int j)), some (B b), x3, x4, x5, x6] := by
  obtain ⟨e2, k1, k2⟩ := forF_inv (bnd := fun d => bindT (cx 9 []) (.v 3) (.d d)) (body := exs (cx 9 []) body1) (fun e => ∃ b x3 x4 x5 x6, e = [some (.d L), some (.d (.int j)), some (B b), x3, x4, x5, x6]) (nums 0 8) (fun d e _ h => turn L j d e h) e h
  exact ⟨e2, for_eval (c := cx 9 []) (t := .v 3) (src := .range [(.con (.int 8))]) (b := body1) (ρ := e) (ρ1 := e) (x := .d (.lst (nums 0 8))) rfl rfl rfl rfl k1, k2⟩
theorem step2 (ns : List Int) (d : D) (e : Env) (hd : ∃ j : Int, d = .int j ∧ 0 ≤ j) (h : ∃ x1 x2 x3 x4 x5 x6, e = [some (.d (.lst (ns.map D.int))), x1, x2, x3, x4, x5, x6]) :
    ∃ e1 e2, bindT (cx 9 []) (.v 1) (.d d) e = some e1 ∧ exs (cx 9 []) body2 e1 = some (.ok .nx, e2) ∧ ∃ x1 x2 x3 x4 x5 x6, e2 = [some (.d (.lst (ns.map D.int))), x1, x2, x3, x4, x5, x6] := by
  obtain ⟨x1, x2, x3, x4, x5, x6, rfl⟩ := h
  obtain ⟨j, rfl, hj⟩ := hd
  obtain ⟨b, hb⟩ := box 8 ns j hj
  obtain ⟨e2, k1, b2, y3, y4, y5, y6, rfl⟩ := loop1 (.lst (ns.map D.int)) j [some (.d (.lst (ns.map D.int))), some (.d (.int j)), some (B b), x3, x4, x5, x6] ⟨b, x3, x4, x5, x6, rfl⟩
  refine ⟨[some (.d (.lst (ns.map D.int))), some (.d (.int j)), x2, x3, x4, x5, x6], [some (.d (.lst (ns.map D.int))), some (.d (.int j)), some (B b2), y3, y4, y5, y6], by simp [bindT, setSlot], ?_, _, _, _, _, _, _, rfl⟩
  simp [body2, l_law_2, lentIx, isD, exs, ex, ev, evs, evt, evi, evc, argM, itemM, M.bind, M.pure, M.opt, M.lift, M.fail, M.quiet, argsD, argD, R.val, getL, getP, getI, putL, putP, modL, setAt, prim, arith, arithI, cmpD, okB, okd, okw, okS, guardR, truthD, bindT, bindTs, setSlot, R.frz, divOk, mulOk, powOk, moveI, shareL, outsOf, callM, takeA, giveA, walkS, walkM, keepM, maskE, restE, varsT, varsTs, dicSrc, isLoc, unlockL, itemsN, itemsD, itemsT, strsOf, quietIf, fixC, ofRange, isOne, inD, sizeMax, hb, k1]
theorem plain (ns : List Int) (h : ns.length ≤ 63) : ∃ e, callN pg 1000 10 "law" [.d (.lst (ns.map D.int))] = some (.ok (.d (.bl true)), e) := by
  have e0 : getFn "law" pg.fns = some f_law := rfl
  have hsrc : ∃ m : Int, ev (cx 9 []) (.range [(.prim .max [(.con (.int 1)), (.prim .min [(.con (.int 3)), (.prim .len [(.loc 0 [])])])])]) [some (.d (.lst (ns.map D.int))), none, none, none, none, none, none] =
      some (.ok (.d (.lst (nums 0 m.toNat))), [some (.d (.lst (ns.map D.int))), none, none, none, none, none, none]) := by
    have hc : (ns.length : Int) = 0 ∨ (ns.length : Int) = 1 ∨ (ns.length : Int) = 2 ∨ (3 : Int) ≤ ns.length := by omega
    rcases hc with hc | hc | hc | hc
    · exact ⟨1, by simp [lentIx, isD, exs, ex, ev, evs, evt, evi, evc, argM, itemM, M.bind, M.pure, M.opt, M.lift, M.fail, M.quiet, argsD, argD, R.val, getL, getP, getI, putL, putP, modL, setAt, prim, arith, arithI, cmpD, okB, okd, okw, okS, guardR, truthD, bindT, bindTs, setSlot, R.frz, divOk, mulOk, powOk, moveI, shareL, outsOf, callM, takeA, giveA, walkS, walkM, keepM, maskE, restE, varsT, varsTs, dicSrc, isLoc, unlockL, itemsN, itemsD, itemsT, strsOf, quietIf, fixC, ofRange, isOne, inD, sizeMax, hc]⟩
    · exact ⟨1, by simp [lentIx, isD, exs, ex, ev, evs, evt, evi, evc, argM, itemM, M.bind, M.pure, M.opt, M.lift, M.fail, M.quiet, argsD, argD, R.val, getL, getP, getI, putL, putP, modL, setAt, prim, arith, arithI, cmpD, okB, okd, okw, okS, guardR, truthD, bindT, bindTs, setSlot, R.frz, divOk, mulOk, powOk, moveI, shareL, outsOf, callM, takeA, giveA, walkS, walkM, keepM, maskE, restE, varsT, varsTs, dicSrc, isLoc, unlockL, itemsN, itemsD, itemsT, strsOf, quietIf, fixC, ofRange, isOne, inD, sizeMax, hc]⟩
    · exact ⟨2, by simp [lentIx, isD, exs, ex, ev, evs, evt, evi, evc, argM, itemM, M.bind, M.pure, M.opt, M.lift, M.fail, M.quiet, argsD, argD, R.val, getL, getP, getI, putL, putP, modL, setAt, prim, arith, arithI, cmpD, okB, okd, okw, okS, guardR, truthD, bindT, bindTs, setSlot, R.frz, divOk, mulOk, powOk, moveI, shareL, outsOf, callM, takeA, giveA, walkS, walkM, keepM, maskE, restE, varsT, varsTs, dicSrc, isLoc, unlockL, itemsN, itemsD, itemsT, strsOf, quietIf, fixC, ofRange, isOne, inD, sizeMax, hc]⟩
    · have h3 : ¬ (ns.length : Int) < 3 := by omega
      exact ⟨3, by simp [lentIx, isD, exs, ex, ev, evs, evt, evi, evc, argM, itemM, M.bind, M.pure, M.opt, M.lift, M.fail, M.quiet, argsD, argD, R.val, getL, getP, getI, putL, putP, modL, setAt, prim, arith, arithI, cmpD, okB, okd, okw, okS, guardR, truthD, bindT, bindTs, setSlot, R.frz, divOk, mulOk, powOk, moveI, shareL, outsOf, callM, takeA, giveA, walkS, walkM, keepM, maskE, restE, varsT, varsTs, dicSrc, isLoc, unlockL, itemsN, itemsD, itemsT, strsOf, quietIf, fixC, ofRange, isOne, inD, sizeMax, h3]⟩
  obtain ⟨m, hsrc⟩ := hsrc
  obtain ⟨e2, k1, x1, x2, x3, x4, x5, x6, rfl⟩ := forF_inv (bnd := fun d => bindT (cx 9 []) (.v 1) (.d d)) (body := exs (cx 9 []) body2) (fun e => ∃ x1 x2 x3 x4 x5 x6, e = [some (.d (.lst (ns.map D.int))), x1, x2, x3, x4, x5, x6]) (nums 0 m.toNat)
    (fun d e hd h => step2 ns d e (by obtain ⟨j, rfl, h1, _⟩ := nums_mem hd; exact ⟨j, rfl, h1⟩) h) [some (.d (.lst (ns.map D.int))), none, none, none, none, none, none] ⟨_, _, _, _, _, _, rfl⟩
  have k := for_eval (c := cx 9 []) (t := .v 1) (b := body2) (x := .d (.lst (nums 0 m.toNat))) rfl rfl hsrc rfl k1
  have k' : Mini.ex (cx 9 []) l_law_2 [some (.d (.lst (ns.map D.int))), none, none, none, none, none, none] = some (.ok .nx, [some (.d (.lst (ns.map D.int))), x1, x2, x3, x4, x5, x6]) := k
  refine ⟨[some (.d (.lst (ns.map D.int)))], ?_⟩
  rw [callN_cx e0 rfl]
  simp [f_law, lentIx, isD, exs, ex, ev, evs, evt, evi, evc, argM, itemM, M.bind, M.pure, M.opt, M.lift, M.fail, M.quiet, argsD, argD, R.val, getL, getP, getI, putL, putP, modL, setAt, prim, arith, arithI, cmpD, okB, okd, okw, okS, guardR, truthD, bindT, bindTs, setSlot, R.frz, divOk, mulOk, powOk, moveI, shareL, outsOf, callM, takeA, giveA, walkS, walkM, keepM, maskE, restE, varsT, varsTs, dicSrc, isLoc, unlockL, itemsN, itemsD, itemsT, strsOf, quietIf, fixC, ofRange, isOne, inD, sizeMax, k']
end K03
namespace K03
open PySem L2 Mini
def tp (i : Nat) : Stmt := PySem.Challenge.pw_asklater_k03_amounts_refused.main.body.getD i (.Pass ⟨0, 0, 0, 0⟩)
abbrev s_is_name : Stmt := tp 9
abbrev s_is_integer : Stmt := tp 10
abbrev s_is_whole : Stmt := tp 11
abbrev s_ordered : Stmt := tp 13
abbrev s_Amount___init__ : Stmt := inClass (tp 14) 0
abbrev s_Amount_of : Stmt := inClass (tp 14) 1
abbrev s_Amount_named : Stmt := inClass (tp 14) 2
abbrev s_Amount___str__ : Stmt := inClass (tp 14) 11
abbrev s_summand_text : Stmt := tp 18
abbrev s__law_box : Stmt := tp 20
abbrev s__law_take : Stmt := tp 21
abbrev s__law_word : Stmt := tp 22
abbrev s__law_any : Stmt := tp 23
abbrev s__law_is_name : Stmt := tp 24
abbrev s__law_made : Stmt := tp 25
abbrev s_law : Stmt := tp 26
/-- what is asked of the text as it stands -/
structure Tx (K : PySem.W.Frag) (mg : Str → Option Value) (A : Adr) (fd : String → FuncData) : Prop where
  n_all : mg "all" = none
  n_bool : mg "bool" = none
  n_int : mg "int" = none
  n_isinstance : mg "isinstance" = none
  n_len : mg "len" = none
  n_max : mg "max" = none
  n_min : mg "min" = none
  n_range : mg "range" = none
  n_set : mg "set" = none
  n_sorted : mg "sorted" = none
  n_str : mg "str" = none
  n_tuple : mg "tuple" = none
  c_LETTERS : ∃ u, mg "LETTERS" = some u ∧ RelV (.str (toS [97, 98, 99, 100, 101, 102, 103, 104, 105, 106, 107, 108, 109, 110, 111, 112, 113, 114, 115, 116, 117, 118, 119, 120, 121, 122])) u
  c_MOST_LETTERS : ∃ u, mg "MOST_LETTERS" = some u ∧ RelV (.int 4) u
  g_Amount : mg "Amount" = some (.ref (A.ca "Amount"))
  g_AskError : mg "AskError" = some (.ref (A.ca "AskError"))
  g_InvalidAmount : mg "InvalidAmount" = some (.ref (A.ca "InvalidAmount"))
  g_InvalidProgram : mg "InvalidProgram" = some (.ref (A.ca "InvalidProgram"))
  g_Open : mg "Open" = some (.ref (A.ca "Open"))
  g_is_name : mg "is_name" = some (.ref (A.fa "is_name"))
  F_is_name : Fun K "is_name" "is_name" s_is_name (A.fa "is_name") (fd "is_name")
  g_is_integer : mg "is_integer" = some (.ref (A.fa "is_integer"))
  F_is_integer : Fun K "is_integer" "is_integer" s_is_integer (A.fa "is_integer") (fd "is_integer")
  g_is_whole : mg "is_whole" = some (.ref (A.fa "is_whole"))
  F_is_whole : Fun K "is_whole" "is_whole" s_is_whole (A.fa "is_whole") (fd "is_whole")
  g_ordered : mg "ordered" = some (.ref (A.fa "ordered"))
  F_ordered : Fun K "ordered" "ordered" s_ordered (A.fa "ordered") (fd "ordered")
  m_Amount : Mk K (A.ca "Amount") (A.fa "Amount.__init__")
  F_Amount___init__ : Fun K "__init__" "Amount.__init__" s_Amount___init__ (A.fa "Amount.__init__") (fd "Amount.__init__")
  st_Amount_of : StaF K (A.ca "Amount") "of" (A.fa "Amount.of")
  F_Amount_of : Fun K "of" "Amount.of" s_Amount_of (A.fa "Amount.of") (fd "Amount.of")
  st_Amount_named : StaF K (A.ca "Amount") "named" (A.fa "Amount.named")
  F_Amount_named : Fun K "named" "Amount.named" s_Amount_named (A.fa "Amount.named") (fd "Amount.named")
  t_Amount___str__ : PySem.W.findIn K (.ref (A.ca "Amount")) "__str__" = some (some (.ref (A.fa "Amount.__str__"))) ∧ PySem.W.isFn K (.ref (A.fa "Amount.__str__")) = true
  F_Amount___str__ : Fun K "__str__" "Amount.__str__" s_Amount___str__ (A.fa "Amount.__str__") (fd "Amount.__str__")
  g_summand_text : mg "summand_text" = some (.ref (A.fa "summand_text"))
  F_summand_text : Fun K "summand_text" "summand_text" s_summand_text (A.fa "summand_text") (fd "summand_text")
  g__law_box : mg "_law_box" = some (.ref (A.fa "_law_box"))
  F__law_box : Fun K "_law_box" "_law_box" s__law_box (A.fa "_law_box") (fd "_law_box")
  g__law_take : mg "_law_take" = some (.ref (A.fa "_law_take"))
  F__law_take : Fun K "_law_take" "_law_take" s__law_take (A.fa "_law_take") (fd "_law_take")
  g__law_word : mg "_law_word" = some (.ref (A.fa "_law_word"))
  F__law_word : Fun K "_law_word" "_law_word" s__law_word (A.fa "_law_word") (fd "_law_word")
  g__law_any : mg "_law_any" = some (.ref (A.fa "_law_any"))
  F__law_any : Fun K "_law_any" "_law_any" s__law_any (A.fa "_law_any") (fd "_law_any")
  g__law_is_name : mg "_law_is_name" = some (.ref (A.fa "_law_is_name"))
  F__law_is_name : Fun K "_law_is_name" "_law_is_name" s__law_is_name (A.fa "_law_is_name") (fd "_law_is_name")
  g__law_made : mg "_law_made" = some (.ref (A.fa "_law_made"))
  F__law_made : Fun K "_law_made" "_law_made" s__law_made (A.fa "_law_made") (fd "_law_made")
  g_law : mg "law" = some (.ref (A.fa "law"))
  F_law : Fun K "law" "law" s_law (A.fa "law") (fd "law")
  cl_Amount : Cls K (A.ca "Amount")
  ga_Amount : PySem.W.findIn K (.ref (A.ca "Amount")) "__class__" = some (some (.builtin "object.__class__"))
  mro_Amount : PySem.W.mroIn K (A.ca "Amount") (.type "object") = some true
  na_Amount_names : NoAttr K (A.ca "Amount") "names"
  na_Amount_sums : NoAttr K (A.ca "Amount") "sums"
  sp : PySem.W.specialIn K (.builtin "object.__class__") "__get__" = some (some (.builtin "getset_descriptor.__get__"))
  tkc : PySem.W.takesIn K (.builtin "object.__class__") = some true
  ii_bool_NoneType : PySem.W.kitOne K (.type "NoneType") (.type "bool") = some false
  ii_bool_bool : PySem.W.kitOne K (.type "bool") (.type "bool") = some true
  ii_bool_int : PySem.W.kitOne K (.type "int") (.type "bool") = some false
  ii_bool_str : PySem.W.kitOne K (.type "str") (.type "bool") = some false
  ii_bool_tuple : PySem.W.kitOne K (.type "tuple") (.type "bool") = some false
  ii_bool_list : PySem.W.kitOne K (.type "list") (.type "bool") = some false
  ii_bool_Amount : PySem.W.kitOne K (.ref (A.ca "Amount")) (.type "bool") = some false
  ii_int_NoneType : PySem.W.kitOne K (.type "NoneType") (.type "int") = some false
  ii_int_bool : PySem.W.kitOne K (.type "bool") (.type "int") = some true
  ii_int_int : PySem.W.kitOne K (.type "int") (.type "int") = some true
  ii_int_str : PySem.W.kitOne K (.type "str") (.type "int") = some false
  ii_int_tuple : PySem.W.kitOne K (.type "tuple") (.type "int") = some false
  ii_int_list : PySem.W.kitOne K (.type "list") (.type "int") = some false
  ii_int_Amount : PySem.W.kitOne K (.ref (A.ca "Amount")) (.type "int") = some false
  ii_str_NoneType : PySem.W.kitOne K (.type "NoneType") (.type "str") = some false
  ii_str_bool : PySem.W.kitOne K (.type "bool") (.type "str") = some false
  ii_str_int : PySem.W.kitOne K (.type "int") (.type "str") = some false
  ii_str_str : PySem.W.kitOne K (.type "str") (.type "str") = some true
  ii_str_tuple : PySem.W.kitOne K (.type "tuple") (.type "str") = some false
  ii_str_list : PySem.W.kitOne K (.type "list") (.type "str") = some false
  ii_str_Amount : PySem.W.kitOne K (.ref (A.ca "Amount")) (.type "str") = some false
  x_InvalidAmount : PySem.W.excIn K (A.ca "InvalidAmount") [.type "ValueError", .type "Exception", .type "BaseException", .type "object"] "ValueError.__new__" = true
  xk_InvalidAmount : PySem.W.keepIn K (.ref (A.ca "InvalidAmount")) = true
  xs_InvalidAmount : PySem.W.subIn K (.ref (A.ca "InvalidAmount")) (.type "BaseException") = some true
  xt_InvalidAmount : PySem.W.typeIn K (.ref (A.ca "InvalidAmount")) = some (.type "type")
  em_InvalidAmount_AskError : PySem.W.exmOne K (.ref (A.ca "AskError")) (.ref (A.ca "InvalidAmount")) = some false
  em_InvalidAmount_InvalidAmount : PySem.W.exmOne K (.ref (A.ca "InvalidAmount")) (.ref (A.ca "InvalidAmount")) = some true
  em_InvalidAmount_InvalidProgram : PySem.W.exmOne K (.ref (A.ca "InvalidProgram")) (.ref (A.ca "InvalidAmount")) = some false
  em_InvalidAmount_Open : PySem.W.exmOne K (.ref (A.ca "Open")) (.ref (A.ca "InvalidAmount")) = some false
  xi_AskError_AskError : PySem.W.kitOne K (.ref (A.ca "AskError")) (.ref (A.ca "AskError")) = some true
  xi_AskError_InvalidAmount : PySem.W.kitOne K (.ref (A.ca "InvalidAmount")) (.ref (A.ca "AskError")) = some true
  xi_AskError_InvalidProgram : PySem.W.kitOne K (.ref (A.ca "InvalidProgram")) (.ref (A.ca "AskError")) = some true
  xi_AskError_Open : PySem.W.kitOne K (.ref (A.ca "Open")) (.ref (A.ca "AskError")) = some true
  xi_InvalidProgram_AskError : PySem.W.kitOne K (.ref (A.ca "AskError")) (.ref (A.ca "InvalidProgram")) = some false
  xi_InvalidProgram_InvalidAmount : PySem.W.kitOne K (.ref (A.ca "InvalidAmount")) (.ref (A.ca "InvalidProgram")) = some false
  xi_InvalidProgram_InvalidProgram : PySem.W.kitOne K (.ref (A.ca "InvalidProgram")) (.ref (A.ca "InvalidProgram")) = some true
  xi_InvalidProgram_Open : PySem.W.kitOne K (.ref (A.ca "Open")) (.ref (A.ca "InvalidProgram")) = some false
  ec_AskError : ExcC K (A.ca "AskError")
  ec_InvalidAmount : ExcC K (A.ca "InvalidAmount")
  ec_InvalidProgram : ExcC K (A.ca "InvalidProgram")
  ec_Open : ExcC K (A.ca "Open")
theorem sc_is_name : FnScope ["thing", "letter"] ["thing"] (defScope s_is_name) := ⟨rfl, rfl, rfl, by decide +kernel, rfl, by decide +kernel, by decide +kernel⟩
theorem sc_is_integer : FnScope ["value"] ["value"] (defScope s_is_integer) := ⟨rfl, rfl, rfl, by decide +kernel, rfl, by decide +kernel, by decide +kernel⟩
theorem sc_is_whole : FnScope ["value"] ["value"] (defScope s_is_whole) := ⟨rfl, rfl, rfl, by decide +kernel, rfl, by decide +kernel, by decide +kernel⟩
theorem sc_ordered : FnScope ["found", "rows", "names", "row"] ["found"] (defScope s_ordered) := ⟨rfl, rfl, rfl, by decide +kernel, rfl, by decide +kernel, by decide +kernel⟩
theorem sc_Amount___init__ : FnScope ["self", "found", "names", "many", "name"] ["self", "found"] (defScope s_Amount___init__) := ⟨rfl, rfl, rfl, by decide +kernel, rfl, by decide +kernel, by decide +kernel⟩
theorem sc_Amount_of : FnScope ["number"] ["number"] (defScope s_Amount_of) := ⟨rfl, rfl, rfl, by decide +kernel, rfl, by decide +kernel, by decide +kernel⟩
theorem sc_Amount_named : FnScope ["name"] ["name"] (defScope s_Amount_named) := ⟨rfl, rfl, rfl, by decide +kernel, rfl, by decide +kernel, by decide +kernel⟩
theorem sc_Amount___str__ : FnScope ["self", "names", "many"] ["self"] (defScope s_Amount___str__) := ⟨rfl, rfl, rfl, by decide +kernel, rfl, by decide +kernel, by decide +kernel⟩
theorem sc_summand_text : FnScope ["names", "many", "words", "name"] ["names", "many"] (defScope s_summand_text) := ⟨rfl, rfl, rfl, by decide +kernel, rfl, by decide +kernel, by decide +kernel⟩
theorem sc__law_box : FnScope ["_law_script", "_law_k", "_law_cell", "_law_seed"] ["_law_script", "_law_k"] (defScope s__law_box) := ⟨rfl, rfl, rfl, by decide +kernel, rfl, by decide +kernel, by decide +kernel⟩
theorem sc__law_take : FnScope ["_law_box_here", "_law_many", "_law_digit", "_law_one"] ["_law_box_here", "_law_many"] (defScope s__law_take) := ⟨rfl, rfl, rfl, by decide +kernel, rfl, by decide +kernel, by decide +kernel⟩
theorem sc__law_word : FnScope ["_law_box_here", "_law_letters", "_law_k"] ["_law_box_here"] (defScope s__law_word) := ⟨rfl, rfl, rfl, by decide +kernel, rfl, by decide +kernel, by decide +kernel⟩
theorem sc__law_any : FnScope ["_law_box_here", "_law_some"] ["_law_box_here"] (defScope s__law_any) := ⟨rfl, rfl, rfl, by decide +kernel, rfl, by decide +kernel, by decide +kernel⟩
theorem sc__law_is_name : FnScope ["_law_value", "_law_sign"] ["_law_value"] (defScope s__law_is_name) := ⟨rfl, rfl, rfl, by decide +kernel, rfl, by decide +kernel, by decide +kernel⟩
theorem sc__law_made : FnScope ["_law_form", "_law_value", "_law_found", "e"] ["_law_form", "_law_value"] (defScope s__law_made) := ⟨rfl, rfl, rfl, by decide +kernel, rfl, by decide +kernel, by decide +kernel⟩
theorem sc_law : FnScope ["_law_script", "_law_k", "_law_box_here", "_law_turn", "_law_value", "_law_whole", "_law_refused"] ["_law_script"] (defScope s_law) := ⟨rfl, rfl, rfl, by decide +kernel, rfl, by decide +kernel, by decide +kernel⟩
section
variable {P : Program} {w : World} {K : PySem.W.Frag} {mg : Str → Option Value} {base : Heap} {A : Adr} {fd : String → FuncData} {fuel : Nat}
theorem Tx.k_is_name (T : Tx K mg A fd) : PySem.W.keepIn K (.ref (A.fa "is_name")) = true := T.F_is_name.kp
theorem Tx.b_is_name (T : Tx K mg A fd) : Binds K (fd "is_name") ["thing"] [] := T.F_is_name.binds fun _ _ _ _ _ _ us hl => match us, hl with | [_], _ => rfl
theorem Tx.k_is_integer (T : Tx K mg A fd) : PySem.W.keepIn K (.ref (A.fa "is_integer")) = true := T.F_is_integer.kp
theorem Tx.b_is_integer (T : Tx K mg A fd) : Binds K (fd "is_integer") ["value"] [] := T.F_is_integer.binds fun _ _ _ _ _ _ us hl => match us, hl with | [_], _ => rfl
theorem Tx.k_is_whole (T : Tx K mg A fd) : PySem.W.keepIn K (.ref (A.fa "is_whole")) = true := T.F_is_whole.kp
theorem Tx.b_is_whole (T : Tx K mg A fd) : Binds K (fd "is_whole") ["value"] [] := T.F_is_whole.binds fun _ _ _ _ _ _ us hl => match us, hl with | [_], _ => rfl
theorem Tx.k_ordered (T : Tx K mg A fd) : PySem.W.keepIn K (.ref (A.fa "ordered")) = true := T.F_ordered.kp
theorem Tx.b_ordered (T : Tx K mg A fd) : Binds K (fd "ordered") ["found"] [] := T.F_ordered.binds fun _ _ _ _ _ _ us hl => match us, hl with | [_], _ => rfl
theorem Tx.k_Amount___init__ (T : Tx K mg A fd) : PySem.W.keepIn K (.ref (A.fa "Amount.__init__")) = true := T.F_Amount___init__.kp
theorem Tx.b_Amount___init__ (T : Tx K mg A fd) : Binds K (fd "Amount.__init__") ["self", "found"] [] := T.F_Amount___init__.binds fun _ _ _ _ _ _ us hl => match us, hl with | [_, _], _ => rfl
theorem Tx.k_Amount_of (T : Tx K mg A fd) : PySem.W.keepIn K (.ref (A.fa "Amount.of")) = true := T.F_Amount_of.kp
theorem Tx.b_Amount_of (T : Tx K mg A fd) : Binds K (fd "Amount.of") ["number"] [] := T.F_Amount_of.binds fun _ _ _ _ _ _ us hl => match us, hl with | [_], _ => rfl
theorem Tx.k_Amount_named (T : Tx K mg A fd) : PySem.W.keepIn K (.ref (A.fa "Amount.named")) = true := T.F_Amount_named.kp
theorem Tx.b_Amount_named (T : Tx K mg A fd) : Binds K (fd "Amount.named") ["name"] [] := T.F_Amount_named.binds fun _ _ _ _ _ _ us hl => match us, hl with | [_], _ => rfl
theorem Tx.k_Amount___str__ (T : Tx K mg A fd) : PySem.W.keepIn K (.ref (A.fa "Amount.__str__")) = true := T.F_Amount___str__.kp
theorem Tx.b_Amount___str__ (T : Tx K mg A fd) : Binds K (fd "Amount.__str__") ["self"] [] := T.F_Amount___str__.binds fun _ _ _ _ _ _ us hl => match us, hl with | [_], _ => rfl
theorem Tx.k_summand_text (T : Tx K mg A fd) : PySem.W.keepIn K (.ref (A.fa "summand_text")) = true := T.F_summand_text.kp
theorem Tx.b_summand_text (T : Tx K mg A fd) : Binds K (fd "summand_text") ["names", "many"] [] := T.F_summand_text.binds fun _ _ _ _ _ _ us hl => match us, hl with | [_, _], _ => rfl
theorem Tx.k__law_box (T : Tx K mg A fd) : PySem.W.keepIn K (.ref (A.fa "_law_box")) = true := T.F__law_box.kp
theorem Tx.b__law_box (T : Tx K mg A fd) : Binds K (fd "_law_box") ["_law_script", "_law_k"] [] := T.F__law_box.binds fun _ _ _ _ _ _ us hl => match us, hl with | [_, _], _ => rfl
theorem Tx.k__law_take (T : Tx K mg A fd) : PySem.W.keepIn K (.ref (A.fa "_law_take")) = true := T.F__law_take.kp
theorem Tx.b__law_take (T : Tx K mg A fd) : Binds K (fd "_law_take") ["_law_box_here", "_law_many"] [] := T.F__law_take.binds fun _ _ _ _ _ _ us hl => match us, hl with | [_, _], _ => rfl
theorem Tx.k__law_word (T : Tx K mg A fd) : PySem.W.keepIn K (.ref (A.fa "_law_word")) = true := T.F__law_word.kp
theorem Tx.b__law_word (T : Tx K mg A fd) : Binds K (fd "_law_word") ["_law_box_here"] [] := T.F__law_word.binds fun _ _ _ _ _ _ us hl => match us, hl with | [_], _ => rfl
theorem Tx.k__law_any (T : Tx K mg A fd) : PySem.W.keepIn K (.ref (A.fa "_law_any")) = true := T.F__law_any.kp
theorem Tx.b__law_any (T : Tx K mg A fd) : Binds K (fd "_law_any") ["_law_box_here"] [] := T.F__law_any.binds fun _ _ _ _ _ _ us hl => match us, hl with | [_], _ => rfl
theorem Tx.k__law_is_name (T : Tx K mg A fd) : PySem.W.keepIn K (.ref (A.fa "_law_is_name")) = true := T.F__law_is_name.kp
theorem Tx.b__law_is_name (T : Tx K mg A fd) : Binds K (fd "_law_is_name") ["_law_value"] [] := T.F__law_is_name.binds fun _ _ _ _ _ _ us hl => match us, hl with | [_], _ => rfl
theorem Tx.k__law_made (T : Tx K mg A fd) : PySem.W.keepIn K (.ref (A.fa "_law_made")) = true := T.F__law_made.kp
theorem Tx.b__law_made (T : Tx K mg A fd) : Binds K (fd "_law_made") ["_law_form", "_law_value"] [] := T.F__law_made.binds fun _ _ _ _ _ _ us hl => match us, hl with | [_, _], _ => rfl
theorem Tx.k_law (T : Tx K mg A fd) : PySem.W.keepIn K (.ref (A.fa "law")) = true := T.F_law.kp
theorem Tx.b_law (T : Tx K mg A fd) : Binds K (fd "law") ["_law_script"] [] := T.F_law.binds fun _ _ _ _ _ _ us hl => match us, hl with | [_], _ => rfl
theorem att_names (T : Tx K mg A fd) {c : Mini.Ctx} (hc : c.att = fun k f => pg.own.contains k && (getFn (k ++ "." ++ f) pg.fns).isNone := by rfl) : AttF K ⟨K, A.ca, A.fa⟩ c "names" := attF_of (P := pg) (fun k hy => by
  simp only [pg, List.mem_cons, List.not_mem_nil, or_false] at hy; rcases hy with rfl
  · exact ⟨T.cl_Amount, T.na_Amount_names⟩) (att_c hc)
theorem att_sums (T : Tx K mg A fd) {c : Mini.Ctx} (hc : c.att = fun k f => pg.own.contains k && (getFn (k ++ "." ++ f) pg.fns).isNone := by rfl) : AttF K ⟨K, A.ca, A.fa⟩ c "sums" := attF_of (P := pg) (fun k hy => by
  simp only [pg, List.mem_cons, List.not_mem_nil, or_false] at hy; rcases hy with rfl
  · exact ⟨T.cl_Amount, T.na_Amount_sums⟩) (att_c hc)
theorem insF (T : Tx K mg A fd) {c : Mini.Ctx} (hc : c.cls = fun k => pg.own.contains k := by rfl) : InsF K ⟨K, A.ca, A.fa⟩ c := by
  refine ⟨fun k hy => ?_, fun k hy => ?_, T.sp, T.tkc, fun k hy => ?_⟩
  · replace hy := mem_c hc hy
    simp only [pg, List.mem_cons, List.not_mem_nil, or_false] at hy; rcases hy with rfl
    · exact T.cl_Amount
  · replace hy := mem_c hc hy
    simp only [pg, List.mem_cons, List.not_mem_nil, or_false] at hy; rcases hy with rfl
    · exact T.ga_Amount
  · replace hy := mem_c hc hy
    simp only [pg, List.mem_cons, List.not_mem_nil, or_false] at hy; rcases hy with rfl
    · exact T.mro_Amount
theorem isF_bool (T : Tx K mg A fd) {c : Mini.Ctx} (hc : c.cls = fun k => pg.own.contains k := by rfl) (hs : c.sub = fun k => getCls k pg.cls := by rfl) : IsF K ⟨K, A.ca, A.fa⟩ c "bool" (.type "bool") := by
  refine ⟨T.ii_bool_NoneType, T.ii_bool_bool, T.ii_bool_int, T.ii_bool_str, T.ii_bool_tuple, T.ii_bool_list, fun k hy => ?_⟩
  replace hy := mem_c hc hy
  rw [hs]
  simp only [pg, List.mem_cons, List.not_mem_nil, or_false] at hy; rcases hy with rfl
  · exact T.ii_bool_Amount.trans (congrArg some (by decide +kernel))
theorem isF_int (T : Tx K mg A fd) {c : Mini.Ctx} (hc : c.cls = fun k => pg.own.contains k := by rfl) (hs : c.sub = fun k => getCls k pg.cls := by rfl) : IsF K ⟨K, A.ca, A.fa⟩ c "int" (.type "int") := by
  refine ⟨T.ii_int_NoneType, T.ii_int_bool, T.ii_int_int, T.ii_int_str, T.ii_int_tuple, T.ii_int_list, fun k hy => ?_⟩
  replace hy := mem_c hc hy
  rw [hs]
  simp only [pg, List.mem_cons, List.not_mem_nil, or_false] at hy; rcases hy with rfl
  · exact T.ii_int_Amount.trans (congrArg some (by decide +kernel))
theorem isF_str (T : Tx K mg A fd) {c : Mini.Ctx} (hc : c.cls = fun k => pg.own.contains k := by rfl) (hs : c.sub = fun k => getCls k pg.cls := by rfl) : IsF K ⟨K, A.ca, A.fa⟩ c "str" (.type "str") := by
  refine ⟨T.ii_str_NoneType, T.ii_str_bool, T.ii_str_int, T.ii_str_str, T.ii_str_tuple, T.ii_str_list, fun k hy => ?_⟩
  replace hy := mem_c hc hy
  rw [hs]
  simp only [pg, List.mem_cons, List.not_mem_nil, or_false] at hy; rcases hy with rfl
  · exact T.ii_str_Amount.trans (congrArg some (by decide +kernel))
theorem exm_InvalidAmount (T : Tx K mg A fd) {c : Mini.Ctx} (hc : c.exc = fun k => pg.exc.contains k := by rfl) (hs : c.sub = fun k => getCls k pg.cls := by rfl) : ExmF K ⟨K, A.ca, A.fa⟩ c "InvalidAmount" (.ref (A.ca "InvalidAmount")) := fun k hy => by
  replace hy := mem_c hc hy
  rw [hs]
  simp only [pg, List.mem_cons, List.not_mem_nil, or_false] at hy; rcases hy with rfl | rfl | rfl | rfl
  · exact T.em_InvalidAmount_AskError.trans (congrArg some (by decide +kernel))
  · exact T.em_InvalidAmount_InvalidAmount.trans (congrArg some (by decide +kernel))
  · exact T.em_InvalidAmount_InvalidProgram.trans (congrArg some (by decide +kernel))
  · exact T.em_InvalidAmount_Open.trans (congrArg some (by decide +kernel))
theorem excC (T : Tx K mg A fd) {k : String} (hy : k ∈ pg.exc) : ExcC K (A.ca k) := by
  simp only [pg, List.mem_cons, List.not_mem_nil, or_false] at hy; rcases hy with rfl | rfl | rfl | rfl
  · exact T.ec_AskError
  · exact T.ec_InvalidAmount
  · exact T.ec_InvalidProgram
  · exact T.ec_Open
theorem xis_AskError (T : Tx K mg A fd) {y : String} (hy : y ∈ pg.exc) : PySem.W.kitOne K (.ref (A.ca y)) (.ref (A.ca "AskError")) = some ("AskError" == y || (getCls y pg.cls).contains "AskError") := by
  simp only [pg, List.mem_cons, List.not_mem_nil, or_false] at hy; rcases hy with rfl | rfl | rfl | rfl
  · exact T.xi_AskError_AskError.trans (congrArg some (by decide +kernel))
  · exact T.xi_AskError_InvalidAmount.trans (congrArg some (by decide +kernel))
  · exact T.xi_AskError_InvalidProgram.trans (congrArg some (by decide +kernel))
  · exact T.xi_AskError_Open.trans (congrArg some (by decide +kernel))
theorem xis_InvalidProgram (T : Tx K mg A fd) {y : String} (hy : y ∈ pg.exc) : PySem.W.kitOne K (.ref (A.ca y)) (.ref (A.ca "InvalidProgram")) = some ("InvalidProgram" == y || (getCls y pg.cls).contains "InvalidProgram") := by
  simp only [pg, List.mem_cons, List.not_mem_nil, or_false] at hy; rcases hy with rfl | rfl | rfl | rfl
  · exact T.xi_InvalidProgram_AskError.trans (congrArg some (by decide +kernel))
  · exact T.xi_InvalidProgram_InvalidAmount.trans (congrArg some (by decide +kernel))
  · exact T.xi_InvalidProgram_InvalidProgram.trans (congrArg some (by decide +kernel))
  · exact T.xi_InvalidProgram_Open.trans (congrArg some (by decide +kernel))
/-- the defs at a level -/
structure Lv (P : Program) (w : World) (K : PySem.W.Frag) (mg : Str → Option Value) (base : Heap) (A : Adr) (fd : String → FuncData) (fuel n l : Nat) : Prop where
  f_is_name : FnOk P w K mg base (L2.CX P w) l (A.fa "is_name") (fd "is_name") ["thing"] (spN ⟨K, A.ca, A.fa⟩ (callN pg fuel n "is_name") 1)
  f_is_integer : FnOk P w K mg base (L2.CX P w) l (A.fa "is_integer") (fd "is_integer") ["value"] (spN ⟨K, A.ca, A.fa⟩ (callN pg fuel n "is_integer") 1)
  f_is_whole : FnOk P w K mg base (L2.CX P w) l (A.fa "is_whole") (fd "is_whole") ["value"] (spN ⟨K, A.ca, A.fa⟩ (callN pg fuel n "is_whole") 1)
  f_ordered : FnOk P w K mg base (L2.CX P w) l (A.fa "ordered") (fd "ordered") ["found"] (spN ⟨K, A.ca, A.fa⟩ (callN pg fuel n "ordered") 1)
  f_Amount___init__ : FnOk P w K mg base (L2.CX P w) l (A.fa "Amount.__init__") (fd "Amount.__init__") ["self", "found"] (spN ⟨K, A.ca, A.fa⟩ (callN pg fuel n "Amount.__init__") 2)
  f_Amount_of : FnOk P w K mg base (L2.CX P w) l (A.fa "Amount.of") (fd "Amount.of") ["number"] (spN ⟨K, A.ca, A.fa⟩ (callN pg fuel n "Amount.of") 1)
  f_Amount_named : FnOk P w K mg base (L2.CX P w) l (A.fa "Amount.named") (fd "Amount.named") ["name"] (spN ⟨K, A.ca, A.fa⟩ (callN pg fuel n "Amount.named") 1)
  f_Amount___str__ : FnOk P w K mg base (L2.CX P w) l (A.fa "Amount.__str__") (fd "Amount.__str__") ["self"] (spN ⟨K, A.ca, A.fa⟩ (callN pg fuel n "Amount.__str__") 1)
  f_summand_text : FnOk P w K mg base (L2.CX P w) l (A.fa "summand_text") (fd "summand_text") ["names", "many"] (spN ⟨K, A.ca, A.fa⟩ (callN pg fuel n "summand_text") 2)
  f__law_box : FnOk P w K mg base (L2.CX P w) l (A.fa "_law_box") (fd "_law_box") ["_law_script", "_law_k"] (spN ⟨K, A.ca, A.fa⟩ (callN pg fuel n "_law_box") 2)
  f__law_take : FnOk P w K mg base (L2.CX P w) l (A.fa "_law_take") (fd "_law_take") ["_law_box_here", "_law_many"] (spN ⟨K, A.ca, A.fa⟩ (callN pg fuel n "_law_take") 2)
  f__law_word : FnOk P w K mg base (L2.CX P w) l (A.fa "_law_word") (fd "_law_word") ["_law_box_here"] (spN ⟨K, A.ca, A.fa⟩ (callN pg fuel n "_law_word") 1)
  f__law_any : FnOk P w K mg base (L2.CX P w) l (A.fa "_law_any") (fd "_law_any") ["_law_box_here"] (spN ⟨K, A.ca, A.fa⟩ (callN pg fuel n "_law_any") 1)
  f__law_is_name : FnOk P w K mg base (L2.CX P w) l (A.fa "_law_is_name") (fd "_law_is_name") ["_law_value"] (spN ⟨K, A.ca, A.fa⟩ (callN pg fuel n "_law_is_name") 1)
  f__law_made : FnOk P w K mg base (L2.CX P w) l (A.fa "_law_made") (fd "_law_made") ["_law_form", "_law_value"] (spN ⟨K, A.ca, A.fa⟩ (callN pg fuel n "_law_made") 2)
  f_law : FnOk P w K mg base (L2.CX P w) l (A.fa "law") (fd "law") ["_law_script"] (spN ⟨K, A.ca, A.fa⟩ (callN pg fuel n "law") 1)
theorem strOk (T : Tx K mg A fd) {X : Cx} {c : Mini.Ctx} {n l : Nat} (h1 : c.call1 = callN pg fuel n) (hP : X.prog = P := by rfl) (hw : X.w = w := by rfl) (hK : X.K = K := by rfl) (hm : X.mg = mg := by rfl) (hb : X.base = base := by rfl) (D1 : Lv P w K mg base A fd fuel n l) : StrF X ⟨K, A.ca, A.fa⟩ c l := by
  subst hP hw hK hm hb
  refine strF_of (L := ["Amount"]) h1 (by decide +kernel) fun k hk => ?_
  simp only [List.mem_cons, List.not_mem_nil, or_false] at hk
  rcases hk with rfl
  · exact ⟨_, _, _, D1.f_Amount___str__, T.t_Amount___str__.1, T.t_Amount___str__.2, T.b_Amount___str__⟩
theorem bd_is_name (T : Tx K mg A fd) {n : Nat} (D : Lv P w K mg base A fd fuel n (2 * n + 3)) (D1 : Lv P w K mg base A fd fuel (n - 1) (2 * n + 1)) : FnOk P w K mg base (L2.CX P w) (2 * n + 5) (A.fa "is_name") (fd "is_name") ["thing"] (spN ⟨K, A.ca, A.fa⟩ (callN pg fuel (n + 1) "is_name") 1) := by
    refine def_okN (fn := f_is_name) (k := 2 * n + 4) rfl T.F_is_name sc_is_name rfl rfl fun X W fx hX hr tk => ?_
    obtain ⟨cdv, A0, outer, s, H, E, rfl, rfl⟩ := hX
    have hN := sc_is_name.nd
    have hu := lt65 hr
    have hr1 := hr.mono (show 2 * n + 3 ≤ 2 * n + 4 by omega)
    have hr2 := hr.mono (show 2 * n + 1 + 1 ≤ 2 * n + 4 by omega)
    have hrs := hr.mono (show 2 * n + 1 + 3 ≤ 2 * n + 4 by omega)
    exact (bs_cons (bs_ife (PW.pt (bw_or2 (bw_tnot (t_val (v_isi (isF_str T) (insF T) T.n_isinstance (v_loc 0) (v_ty T.n_str) (.ty "str")))) (bw_or1 (bw_tnot (t_chain (.inr (.inr (.inr (.inl rfl)))) (.inr (.inr (.inr (.inl rfl)))) op_le_ok op_le_ok v_int (v_blt (call_len_ok rfl) T.n_len (v_asc (v_loc 0) v_asn)) (v_glbI T.c_MOST_LETTERS))))))
    (bs_cons (bs_ret v_bl)
    bs_nil)
    bs_nil)
    (bs_cons (bs_ret (v_blt (call_all_ok rfl rfl) T.n_all (v_asc (v_a (v_lc [("letter", 1)] (ok := blkOk_by (N := ["thing", "letter"]) (sc := defScope s_is_name) (by decide +kernel)) rfl hN (w_val (v_var 0)) (fun _ _ _ _ _ => (g_v 1 hN)) (fun _ _ _ _ _ => bts_nil) (fun _ _ _ _ _ => (v_cmp (o_in hu) (v_loc 1) (v_a (v_glbS T.c_LETTERS)))))) v_asn)))
    bs_nil))
theorem bd_is_integer (T : Tx K mg A fd) {n : Nat} (D : Lv P w K mg base A fd fuel n (2 * n + 3)) (D1 : Lv P w K mg base A fd fuel (n - 1) (2 * n + 1)) : FnOk P w K mg base (L2.CX P w) (2 * n + 5) (A.fa "is_integer") (fd "is_integer") ["value"] (spN ⟨K, A.ca, A.fa⟩ (callN pg fuel (n + 1) "is_integer") 1) := by
    refine def_okN (fn := f_is_integer) (k := 2 * n + 4) rfl T.F_is_integer sc_is_integer rfl rfl fun X W fx hX hr tk => ?_
    obtain ⟨cdv, A0, outer, s, H, E, rfl, rfl⟩ := hX
    have hN := sc_is_integer.nd
    have hu := lt65 hr
    have hr1 := hr.mono (show 2 * n + 3 ≤ 2 * n + 4 by omega)
    have hr2 := hr.mono (show 2 * n + 1 + 1 ≤ 2 * n + 4 by omega)
    have hrs := hr.mono (show 2 * n + 1 + 3 ≤ 2 * n + 4 by omega)
    exact (bs_cons (bs_ret (v_and (v_isi (isF_int T) (insF T) T.n_isinstance (v_loc 0) (v_ty T.n_int) (.ty "int")) (bw_bool1 (v_not (v_a (v_isi (isF_bool T) (insF T) T.n_isinstance (v_loc 0) (v_ty T.n_bool) (.ty "bool")))))))
    bs_nil)
theorem bd_is_whole (T : Tx K mg A fd) {n : Nat} (D : Lv P w K mg base A fd fuel n (2 * n + 3)) (D1 : Lv P w K mg base A fd fuel (n - 1) (2 * n + 1)) : FnOk P w K mg base (L2.CX P w) (2 * n + 5) (A.fa "is_whole") (fd "is_whole") ["value"] (spN ⟨K, A.ca, A.fa⟩ (callN pg fuel (n + 1) "is_whole") 1) := by
    refine def_okN (fn := f_is_whole) (k := 2 * n + 4) rfl T.F_is_whole sc_is_whole rfl rfl fun X W fx hX hr tk => ?_
    obtain ⟨cdv, A0, outer, s, H, E, rfl, rfl⟩ := hX
    have hN := sc_is_whole.nd
    have hu := lt65 hr
    have hr1 := hr.mono (show 2 * n + 3 ≤ 2 * n + 4 by omega)
    have hr2 := hr.mono (show 2 * n + 1 + 1 ≤ 2 * n + 4 by omega)
    have hrs := hr.mono (show 2 * n + 1 + 3 ≤ 2 * n + 4 by omega)
    exact (bs_cons (bs_ret (v_and (v_call tk hr1 D.f_is_integer T.k_is_integer T.b_is_integer T.g_is_integer (v_asc (v_a (v_var 0)) v_asn)) (bw_bool1 (v_cmp op_ge_ok (v_loc 0) (v_a v_int)))))
    bs_nil)
theorem bd_ordered (T : Tx K mg A fd) {n : Nat} (D : Lv P w K mg base A fd fuel n (2 * n + 3)) (D1 : Lv P w K mg base A fd fuel (n - 1) (2 * n + 1)) : FnOk P w K mg base (L2.CX P w) (2 * n + 5) (A.fa "ordered") (fd "ordered") ["found"] (spN ⟨K, A.ca, A.fa⟩ (callN pg fuel (n + 1) "ordered") 1) := by
    refine def_okN (fn := f_ordered) (k := 2 * n + 4) rfl T.F_ordered sc_ordered rfl rfl fun X W fx hX hr tk => ?_
    obtain ⟨cdv, A0, outer, s, H, E, rfl, rfl⟩ := hX
    have hN := sc_ordered.nd
    have hu := lt65 hr
    have hr1 := hr.mono (show 2 * n + 3 ≤ 2 * n + 4 by omega)
    have hr2 := hr.mono (show 2 * n + 1 + 1 ≤ 2 * n + 4 by omega)
    have hrs := hr.mono (show 2 * n + 1 + 3 ≤ 2 * n + 4 by omega)
    exact (bs_cons (s_set 1 hN v_dict0)
    (bs_cons (s_forD 0 (passes_of rfl) rfl (g_v 2 hN) (bs_cons (bs_ife (t_cmp (.inr (.inr (.inr (.inr (.inl rfl))))) op_gt_ok (v_a (v_ix hu (v_loc 0) (v_loc 2))) (v_a v_int))
    (bs_cons (s_sub 1 hu (v_fstr (bj_cons (bw_fmt (v_a (v_sub (v_a v_int) (v_a (v_blt (call_len_ok rfl) T.n_len (v_asc (v_loc 2) v_asn)))))) (bj_cons v_str (bj_cons (bw_fmt (v_a (v_join v_str (v_loc 2)))) bj_nil)))) (v_var 2))
    bs_nil)
    bs_nil)
    bs_nil))
    (bs_cons (bs_ret (v_bty (call_tuple_ok rfl) T.n_tuple (v_asc (v_a (v_lc [("row", 3)] (ok := blkOk_by (N := ["found", "rows", "names", "row"]) (sc := defScope s_ordered) (by decide +kernel)) rfl hN (w_val (v_blt (call_sorted_ok rfl) T.n_sorted (v_asc (v_a (v_lcD [("row", 3)] (ok := blkOk_by (N := ["found", "rows", "names", "row"]) (sc := defScope s_ordered) (by decide +kernel)) 1 rfl hN (fun _ _ _ _ _ => (g_v 3 hN)) (fun _ _ _ _ _ => bts_nil) (fun _ _ _ _ _ => (v_bty (call_str_ok (strOk T call1_eq (D1 := D1)) hrs) T.n_str (v_asc (v_loc 3) v_asn))))) v_asn))) (fun _ _ _ _ _ => (g_v 3 hN)) (fun _ _ _ _ _ => bts_nil) (fun _ _ _ _ _ => (bw_tup (v_isc (v_ix hu (v_loc 1) (v_loc 3)) (v_isc (v_ix hu (v_loc 0) (v_a (v_ix hu (v_loc 1) (v_loc 3)))) v_isn)))))) v_asn)))
    bs_nil)))
theorem bd_Amount___init__ (T : Tx K mg A fd) {n : Nat} (D : Lv P w K mg base A fd fuel n (2 * n + 3)) (D1 : Lv P w K mg base A fd fuel (n - 1) (2 * n + 1)) : FnOk P w K mg base (L2.CX P w) (2 * n + 5) (A.fa "Amount.__init__") (fd "Amount.__init__") ["self", "found"] (spN ⟨K, A.ca, A.fa⟩ (callN pg fuel (n + 1) "Amount.__init__") 2) := by
    refine def_okN (fn := f_Amount___init__) (k := 2 * n + 4) rfl T.F_Amount___init__ sc_Amount___init__ rfl rfl fun X W fx hX hr tk => ?_
    obtain ⟨cdv, A0, outer, s, H, E, rfl, rfl⟩ := hX
    have hN := sc_Amount___init__.nd
    have hu := lt65 hr
    have hr1 := hr.mono (show 2 * n + 3 ≤ 2 * n + 4 by omega)
    have hr2 := hr.mono (show 2 * n + 1 + 1 ≤ 2 * n + 4 by omega)
    have hrs := hr.mono (show 2 * n + 1 + 3 ≤ 2 * n + 4 by omega)
    exact (bs_cons (s_fld 0 "sums" (att_sums T) (v_call tk hr1 D.f_ordered T.k_ordered T.b_ordered T.g_ordered (v_asc (v_a (v_var 1)) v_asn)))
    (bs_cons (s_fld 0 "names" (att_names T) (v_bty (call_tuple_ok rfl) T.n_tuple (v_asc (v_a (v_sortset rfl T.n_sorted T.n_set (v_a (v_lc2 [("names", 2), ("many", 3), ("name", 4)] (ok := blkOk_by (N := ["self", "found", "names", "many", "name"]) (sc := defScope s_Amount___init__) (by decide +kernel)) rfl hN (w_val (bw_fld (v_pk1 (fs := []) "sums" (att_sums T) (v_pk 0)))) (fun _ _ _ _ _ => (g_t rfl (g_c (g_v 2 hN) (g_c (g_v 3 hN) g_n)))) (fun _ _ _ _ _ => bts_nil) (fun _ _ _ _ _ => (w_val (v_var 2))) (fun _ _ _ _ _ => (g_v 4 hN)) (fun _ _ _ _ _ => bts_nil) (fun _ _ _ _ _ => (v_bty (call_str_ok (strOk T call1_eq (D1 := D1)) hrs) T.n_str (v_asc (v_loc 4) v_asn))))))) v_asn)))
    bs_nil))
theorem bd_Amount_of (T : Tx K mg A fd) {n : Nat} (D : Lv P w K mg base A fd fuel n (2 * n + 3)) (D1 : Lv P w K mg base A fd fuel (n - 1) (2 * n + 1)) : FnOk P w K mg base (L2.CX P w) (2 * n + 5) (A.fa "Amount.of") (fd "Amount.of") ["number"] (spN ⟨K, A.ca, A.fa⟩ (callN pg fuel (n + 1) "Amount.of") 1) := by
    refine def_okN (fn := f_Amount_of) (k := 2 * n + 4) rfl T.F_Amount_of sc_Amount_of rfl rfl fun X W fx hX hr tk => ?_
    obtain ⟨cdv, A0, outer, s, H, E, rfl, rfl⟩ := hX
    have hN := sc_Amount_of.nd
    have hu := lt65 hr
    have hr1 := hr.mono (show 2 * n + 3 ≤ 2 * n + 4 by omega)
    have hr2 := hr.mono (show 2 * n + 1 + 1 ≤ 2 * n + 4 by omega)
    have hrs := hr.mono (show 2 * n + 1 + 3 ≤ 2 * n + 4 by omega)
    exact (bs_cons (bs_ife (bw_tnot (t_val (v_call tk hr1 D.f_is_whole T.k_is_whole T.b_is_whole T.g_is_whole (v_asc (v_a (v_var 0)) v_asn))))
    (bs_cons (bs_rse0 rfl rfl tk PySem.F.excBase_ValueError T.x_InvalidAmount T.g_InvalidAmount T.xk_InvalidAmount (raises_own T.xs_InvalidAmount T.xt_InvalidAmount) rfl (by decide +kernel))
    bs_nil)
    bs_nil)
    (bs_cons (bs_ret (v_make tk hr2 D1.f_Amount___init__ T.k_Amount___init__ T.b_Amount___init__ T.m_Amount T.g_Amount call1_eq (v_asc (v_a (v_dict1 hu (bw_tup v_isn) (v_var 0))) v_asn)))
    bs_nil))
theorem bd_Amount_named (T : Tx K mg A fd) {n : Nat} (D : Lv P w K mg base A fd fuel n (2 * n + 3)) (D1 : Lv P w K mg base A fd fuel (n - 1) (2 * n + 1)) : FnOk P w K mg base (L2.CX P w) (2 * n + 5) (A.fa "Amount.named") (fd "Amount.named") ["name"] (spN ⟨K, A.ca, A.fa⟩ (callN pg fuel (n + 1) "Amount.named") 1) := by
    refine def_okN (fn := f_Amount_named) (k := 2 * n + 4) rfl T.F_Amount_named sc_Amount_named rfl rfl fun X W fx hX hr tk => ?_
    obtain ⟨cdv, A0, outer, s, H, E, rfl, rfl⟩ := hX
    have hN := sc_Amount_named.nd
    have hu := lt65 hr
    have hr1 := hr.mono (show 2 * n + 3 ≤ 2 * n + 4 by omega)
    have hr2 := hr.mono (show 2 * n + 1 + 1 ≤ 2 * n + 4 by omega)
    have hrs := hr.mono (show 2 * n + 1 + 3 ≤ 2 * n + 4 by omega)
    exact (bs_cons (bs_ife (bw_tnot (t_val (v_call tk hr1 D.f_is_name T.k_is_name T.b_is_name T.g_is_name (v_asc (v_a (v_var 0)) v_asn))))
    (bs_cons (bs_rse0 rfl rfl tk PySem.F.excBase_ValueError T.x_InvalidAmount T.g_InvalidAmount T.xk_InvalidAmount (raises_own T.xs_InvalidAmount T.xt_InvalidAmount) rfl (by decide +kernel))
    bs_nil)
    bs_nil)
    (bs_cons (bs_ret (v_make tk hr2 D1.f_Amount___init__ T.k_Amount___init__ T.b_Amount___init__ T.m_Amount T.g_Amount call1_eq (v_asc (v_a (v_dict1 hu (bw_tup (v_isc (v_var 0) v_isn)) v_int)) v_asn)))
    bs_nil))
theorem bd_Amount___str__ (T : Tx K mg A fd) {n : Nat} (D : Lv P w K mg base A fd fuel n (2 * n + 3)) (D1 : Lv P w K mg base A fd fuel (n - 1) (2 * n + 1)) : FnOk P w K mg base (L2.CX P w) (2 * n + 5) (A.fa "Amount.__str__") (fd "Amount.__str__") ["self"] (spN ⟨K, A.ca, A.fa⟩ (callN pg fuel (n + 1) "Amount.__str__") 1) := by
    refine def_okN (fn := f_Amount___str__) (k := 2 * n + 4) rfl T.F_Amount___str__ sc_Amount___str__ rfl rfl fun X W fx hX hr tk => ?_
    obtain ⟨cdv, A0, outer, s, H, E, rfl, rfl⟩ := hX
    have hN := sc_Amount___str__.nd
    have hu := lt65 hr
    have hr1 := hr.mono (show 2 * n + 3 ≤ 2 * n + 4 by omega)
    have hr2 := hr.mono (show 2 * n + 1 + 1 ≤ 2 * n + 4 by omega)
    have hrs := hr.mono (show 2 * n + 1 + 3 ≤ 2 * n + 4 by omega)
    exact (bs_cons (bs_ife (t_cmp (.inl rfl) (o_eq hu) (v_a (bw_fld (v_pk1 (fs := []) "sums" (att_sums T) (v_pk 0)))) (v_a (bw_tup v_isn)))
    (bs_cons (bs_ret v_str)
    bs_nil)
    bs_nil)
    (bs_cons (bs_ret (v_join v_str (v_a (v_lc [("names", 1), ("many", 2)] (ok := blkOk_by (N := ["self", "names", "many"]) (sc := defScope s_Amount___str__) (by decide +kernel)) rfl hN (w_val (bw_fld (v_pk1 (fs := []) "sums" (att_sums T) (v_pk 0)))) (fun _ _ _ _ _ => (g_t rfl (g_c (g_v 1 hN) (g_c (g_v 2 hN) g_n)))) (fun _ _ _ _ _ => bts_nil) (fun _ _ _ _ _ => (v_call takes_none5 hr1 D.f_summand_text T.k_summand_text T.b_summand_text T.g_summand_text (v_asc (v_a (v_var 1)) (v_asc (v_a (v_var 2)) v_asn))))))))
    bs_nil))
theorem bd_summand_text (T : Tx K mg A fd) {n : Nat} (D : Lv P w K mg base A fd fuel n (2 * n + 3)) (D1 : Lv P w K mg base A fd fuel (n - 1) (2 * n + 1)) : FnOk P w K mg base (L2.CX P w) (2 * n + 5) (A.fa "summand_text") (fd "summand_text") ["names", "many"] (spN ⟨K, A.ca, A.fa⟩ (callN pg fuel (n + 1) "summand_text") 2) := by
    refine def_okN (fn := f_summand_text) (k := 2 * n + 4) rfl T.F_summand_text sc_summand_text rfl rfl fun X W fx hX hr tk => ?_
    obtain ⟨cdv, A0, outer, s, H, E, rfl, rfl⟩ := hX
    have hN := sc_summand_text.nd
    have hu := lt65 hr
    have hr1 := hr.mono (show 2 * n + 3 ≤ 2 * n + 4 by omega)
    have hr2 := hr.mono (show 2 * n + 1 + 1 ≤ 2 * n + 4 by omega)
    have hrs := hr.mono (show 2 * n + 1 + 3 ≤ 2 * n + 4 by omega)
    exact (bs_cons (s_setLc 2 [("name", 3)] (ok := blkOk_by (N := ["names", "many", "words", "name"]) (sc := defScope s_summand_text) (by decide +kernel)) rfl hN (w_val (v_var 0)) (fun _ _ _ _ _ => (g_v 3 hN)) (fun _ _ _ _ _ => bts_nil) (fun _ _ _ _ _ => (v_bty (call_str_ok (strOk T call1_eq (D1 := D1)) hrs) T.n_str (v_asc (v_loc 3) v_asn))))
    (bs_cons (bs_ret (v_join v_str (v_a (bw_ite (PW.pt (bw_and2 (t_cmp (.inl rfl) (o_eq hu) (v_loc 1) (v_a v_int)) (bw_and1 (t_cmp (.inr (.inl rfl)) (o_ne hu) (v_loc 2) (v_a (bw_lst v_isn)))))) (v_var 2) (bw_lst (v_isc (v_bty (call_str_ok (strOk T call1_eq (D1 := D1)) hrs) T.n_str (v_asc (v_loc 1) v_asn)) (v_iss (v_loc 2) v_isn)))))))
    bs_nil))
theorem bd__law_box (T : Tx K mg A fd) {n : Nat} (D : Lv P w K mg base A fd fuel n (2 * n + 3)) (D1 : Lv P w K mg base A fd fuel (n - 1) (2 * n + 1)) : FnOk P w K mg base (L2.CX P w) (2 * n + 5) (A.fa "_law_box") (fd "_law_box") ["_law_script", "_law_k"] (spN ⟨K, A.ca, A.fa⟩ (callN pg fuel (n + 1) "_law_box") 2) := by
    refine def_okN (fn := f__law_box) (k := 2 * n + 4) rfl T.F__law_box sc__law_box rfl rfl fun X W fx hX hr tk => ?_
    obtain ⟨cdv, A0, outer, s, H, E, rfl, rfl⟩ := hX
    have hN := sc__law_box.nd
    have hu := lt65 hr
    have hr1 := hr.mono (show 2 * n + 3 ≤ 2 * n + 4 by omega)
    have hr2 := hr.mono (show 2 * n + 1 + 1 ≤ 2 * n + 4 by omega)
    have hrs := hr.mono (show 2 * n + 1 + 3 ≤ 2 * n + 4 by omega)
    exact (bs_cons (s_set 2 hN (v_add (v_a (v_mul (v_a v_int) (v_loc 1))) (v_a v_int)))
    (bs_cons (bs_ife (t_cmp (.inr (.inr (.inl rfl))) op_lt_ok (v_loc 1) (v_a (v_blt (call_len_ok rfl) T.n_len (v_asc (v_loc 0) v_asn))))
    (bs_cons (s_set 2 hN (v_ix hu (v_loc 0) (v_loc 1)))
    bs_nil)
    (bs_cons (bs_ife (t_cmp (.inr (.inr (.inr (.inr (.inl rfl))))) op_gt_ok (v_a (v_blt (call_len_ok rfl) T.n_len (v_asc (v_loc 0) v_asn))) (v_a v_int))
    (bs_cons (s_set 2 hN (v_add (v_loc 2) (v_a (v_mul (v_a (v_mod (v_a (v_ix hu (v_loc 0) (v_a (v_mod (v_loc 1) (v_a (v_blt (call_len_ok rfl) T.n_len (v_asc (v_loc 0) v_asn))))))) (v_a v_int))) (v_a v_int)))))
    bs_nil)
    bs_nil)
    bs_nil))
    (bs_cons (s_set 3 hN (v_add (v_a (v_mod (v_a (v_add (v_a (v_mul (v_a (v_mod (v_loc 2) (v_a v_int))) (v_a v_int))) (v_a (v_mul (v_a v_int) (v_loc 1))))) (v_a v_int))) (v_a v_int)))
    (bs_cons (bs_ret (bw_lst (v_isc (v_ix hu (v_a (bw_lst (v_isc v_int (v_isc (v_var 2) v_isn)))) (v_a (v_bty call_int_ok T.n_int (v_asc (v_a (v_cmp op_ge_ok (v_loc 2) (v_a (v_pow (v_a v_int) (v_a v_int))))) v_asn)))) (v_isc (v_var 3) (v_isc v_int v_isn)))))
    bs_nil))))
theorem bd__law_take (T : Tx K mg A fd) {n : Nat} (D : Lv P w K mg base A fd fuel n (2 * n + 3)) (D1 : Lv P w K mg base A fd fuel (n - 1) (2 * n + 1)) : FnOk P w K mg base (L2.CX P w) (2 * n + 5) (A.fa "_law_take") (fd "_law_take") ["_law_box_here", "_law_many"] (spN ⟨K, A.ca, A.fa⟩ (callN pg fuel (n + 1) "_law_take") 2) := by
    refine def_okN (fn := f__law_take) (k := 2 * n + 4) rfl T.F__law_take sc__law_take rfl rfl fun X W fx hX hr tk => ?_
    obtain ⟨cdv, A0, outer, s, H, E, rfl, rfl⟩ := hX
    have hN := sc__law_take.nd
    have hu := lt65 hr
    have hr1 := hr.mono (show 2 * n + 3 ≤ 2 * n + 4 by omega)
    have hr2 := hr.mono (show 2 * n + 1 + 1 ≤ 2 * n + 4 by omega)
    have hrs := hr.mono (show 2 * n + 1 + 3 ≤ 2 * n + 4 by omega)
    exact (bs_cons (bs_ife (t_cmp (.inr (.inr (.inr (.inr (.inl rfl))))) op_gt_ok (v_a (v_ix hu (v_loc 0) (v_a v_int))) (v_a v_int))
    (bs_cons (s_set 2 hN (v_mod (v_a (v_ix hu (v_loc 0) (v_a v_int))) (v_loc 1)))
    (bs_cons (s_sub 0 hu v_int (v_fdiv (v_a (v_ix hu (v_loc 0) (v_a v_int))) (v_loc 1)))
    (bs_cons (bs_ret (v_mov 2))
    bs_nil)))
    bs_nil)
    (bs_cons (s_sub 0 hu v_int (v_add (v_a (v_ix hu (v_loc 0) (v_a v_int))) (v_a v_int)))
    (bs_cons (s_set 3 hN (v_mod (v_a (v_mul (v_a (v_add (v_a (v_ix hu (v_loc 0) (v_a v_int))) (v_a (v_mul (v_a v_int) (v_a (v_ix hu (v_loc 0) (v_a v_int))))))) (v_a v_int))) (v_a v_int)))
    (bs_cons (s_sub 0 hu v_int (v_add (v_a (v_mod (v_a (v_add (v_a (v_mul (v_loc 3) (v_a v_int))) (v_a v_int))) (v_a v_int))) (v_a v_int)))
    (bs_cons (bs_ret (v_mod (v_a (v_fdiv (v_a (v_add (v_a (v_mul (v_loc 3) (v_a v_int))) (v_a (v_ix hu (v_loc 0) (v_a v_int))))) (v_a v_int))) (v_loc 1)))
    bs_nil)))))
theorem bd__law_word (T : Tx K mg A fd) {n : Nat} (D : Lv P w K mg base A fd fuel n (2 * n + 3)) (D1 : Lv P w K mg base A fd fuel (n - 1) (2 * n + 1)) : FnOk P w K mg base (L2.CX P w) (2 * n + 5) (A.fa "_law_word") (fd "_law_word") ["_law_box_here"] (spN ⟨K, A.ca, A.fa⟩ (callN pg fuel (n + 1) "_law_word") 1) := by
    refine def_okN (fn := f__law_word) (k := 2 * n + 4) rfl T.F__law_word sc__law_word rfl rfl fun X W fx hX hr tk => ?_
    obtain ⟨cdv, A0, outer, s, H, E, rfl, rfl⟩ := hX
    have hN := sc__law_word.nd
    have hu := lt65 hr
    have hr1 := hr.mono (show 2 * n + 3 ≤ 2 * n + 4 by omega)
    have hr2 := hr.mono (show 2 * n + 1 + 1 ≤ 2 * n + 4 by omega)
    have hrs := hr.mono (show 2 * n + 1 + 3 ≤ 2 * n + 4 by omega)
    exact (bs_cons (s_set 1 hN v_str)
    (bs_cons (bs_ret (v_join v_str (v_a (v_lc [("_law_k", 2)] (ok := blkOk_by (N := ["_law_box_here", "_law_letters", "_law_k"]) (sc := defScope s__law_word) (by decide +kernel)) rfl hN (w_rng T.n_range (v_isc (v_call tk hr1 D.f__law_take T.k__law_take T.b__law_take T.g__law_take (v_asc (v_loc 0) (v_asc (v_a v_int) v_asn))) v_isn)) (fun _ _ _ _ _ => (g_v 2 hN)) (fun _ _ _ _ _ => bts_nil) (fun _ _ _ _ _ => (v_ix hu (v_loc 1) (v_a (v_call takes_none5 hr1 D.f__law_take T.k__law_take T.b__law_take T.g__law_take (v_asc (v_loc 0) (v_asc (v_a (v_ix hu (v_a (bw_lst (v_isc v_int (v_isc v_int (v_isc v_int v_isn))))) (v_a (v_call takes_none5 hr1 D.f__law_take T.k__law_take T.b__law_take T.g__law_take (v_asc (v_loc 0) (v_asc (v_a v_int) v_asn)))))) v_asn))))))))))
    bs_nil))
theorem bd__law_any (T : Tx K mg A fd) {n : Nat} (D : Lv P w K mg base A fd fuel n (2 * n + 3)) (D1 : Lv P w K mg base A fd fuel (n - 1) (2 * n + 1)) : FnOk P w K mg base (L2.CX P w) (2 * n + 5) (A.fa "_law_any") (fd "_law_any") ["_law_box_here"] (spN ⟨K, A.ca, A.fa⟩ (callN pg fuel (n + 1) "_law_any") 1) := by
    refine def_okN (fn := f__law_any) (k := 2 * n + 4) rfl T.F__law_any sc__law_any rfl rfl fun X W fx hX hr tk => ?_
    obtain ⟨cdv, A0, outer, s, H, E, rfl, rfl⟩ := hX
    have hN := sc__law_any.nd
    have hu := lt65 hr
    have hr1 := hr.mono (show 2 * n + 3 ≤ 2 * n + 4 by omega)
    have hr2 := hr.mono (show 2 * n + 1 + 1 ≤ 2 * n + 4 by omega)
    have hrs := hr.mono (show 2 * n + 1 + 3 ≤ 2 * n + 4 by omega)
    exact (bs_cons (s_set 1 hN (bw_lst (v_isc (v_sub (v_a (v_call tk hr1 D.f__law_take T.k__law_take T.b__law_take T.g__law_take (v_asc (v_loc 0) (v_asc (v_a v_int) v_asn)))) (v_a v_int)) (v_isc (v_sub (v_a v_int) (v_a (v_pow (v_a v_int) (v_a v_int)))) (v_isc (v_sub (v_a (v_pow (v_a v_int) (v_a v_int))) (v_a v_int)) (v_isc v_bl (v_isc v_bl (v_isc v_non (v_isc (bw_tup v_isn) (v_isc (bw_tup (v_isc v_int v_isn)) (v_isc (bw_tup (v_isc v_str v_isn)) (v_isc v_str (v_isc v_str v_isn)))))))))))))
    (bs_cons (bs_ret (v_ix hu (v_a (v_add (v_loc 1) (v_a (bw_lst (v_isc (v_call tk hr1 D.f__law_word T.k__law_word T.b__law_word T.g__law_word (v_asc (v_loc 0) v_asn)) (v_isc (v_call tk hr1 D.f__law_word T.k__law_word T.b__law_word T.g__law_word (v_asc (v_loc 0) v_asn)) (v_isc (v_call tk hr1 D.f__law_word T.k__law_word T.b__law_word T.g__law_word (v_asc (v_loc 0) v_asn)) (v_isc (v_call tk hr1 D.f__law_take T.k__law_take T.b__law_take T.g__law_take (v_asc (v_loc 0) (v_asc (v_a (v_pow (v_a v_int) (v_a v_int))) v_asn))) v_isn)))))))) (v_a (v_call tk hr1 D.f__law_take T.k__law_take T.b__law_take T.g__law_take (v_asc (v_loc 0) (v_asc (v_a v_int) v_asn))))))
    bs_nil))
theorem bd__law_is_name (T : Tx K mg A fd) {n : Nat} (D : Lv P w K mg base A fd fuel n (2 * n + 3)) (D1 : Lv P w K mg base A fd fuel (n - 1) (2 * n + 1)) : FnOk P w K mg base (L2.CX P w) (2 * n + 5) (A.fa "_law_is_name") (fd "_law_is_name") ["_law_value"] (spN ⟨K, A.ca, A.fa⟩ (callN pg fuel (n + 1) "_law_is_name") 1) := by
    refine def_okN (fn := f__law_is_name) (k := 2 * n + 4) rfl T.F__law_is_name sc__law_is_name rfl rfl fun X W fx hX hr tk => ?_
    obtain ⟨cdv, A0, outer, s, H, E, rfl, rfl⟩ := hX
    have hN := sc__law_is_name.nd
    have hu := lt65 hr
    have hr1 := hr.mono (show 2 * n + 3 ≤ 2 * n + 4 by omega)
    have hr2 := hr.mono (show 2 * n + 1 + 1 ≤ 2 * n + 4 by omega)
    have hrs := hr.mono (show 2 * n + 1 + 3 ≤ 2 * n + 4 by omega)
    exact (bs_cons (bs_ife (PW.pt (bw_or2 (bw_tnot (t_val (v_isi (isF_str T) (insF T) T.n_isinstance (v_loc 0) (v_ty T.n_str) (.ty "str")))) (bw_or2 (t_cmp (.inr (.inr (.inl rfl))) op_lt_ok (v_a (v_blt (call_len_ok rfl) T.n_len (v_asc (v_loc 0) v_asn))) (v_a v_int)) (bw_or1 (t_cmp (.inr (.inr (.inr (.inr (.inl rfl))))) op_gt_ok (v_a (v_blt (call_len_ok rfl) T.n_len (v_asc (v_loc 0) v_asn))) (v_a v_int))))))
    (bs_cons (bs_ret v_bl)
    bs_nil)
    bs_nil)
    (bs_cons (bs_ret (v_cmp (o_eq hu) (v_a (v_lc [("_law_sign", 1)] (ok := blkOk_by (N := ["_law_value", "_law_sign"]) (sc := defScope s__law_is_name) (by decide +kernel)) rfl hN (w_val (v_var 0)) (fun _ _ _ _ _ => (g_v 1 hN)) (fun _ _ _ _ _ => (bts_one (t_cmp (.inr (.inr (.inr (.inr (.inr (.inr (.inr (rfl)))))))) (o_notin hu) (v_loc 1) (v_a v_str)))) (fun _ _ _ _ _ => (v_var 1)))) (v_a (bw_lst v_isn))))
    bs_nil))
theorem bd__law_made (T : Tx K mg A fd) {n : Nat} (D : Lv P w K mg base A fd fuel n (2 * n + 3)) (D1 : Lv P w K mg base A fd fuel (n - 1) (2 * n + 1)) : FnOk P w K mg base (L2.CX P w) (2 * n + 5) (A.fa "_law_made") (fd "_law_made") ["_law_form", "_law_value"] (spN ⟨K, A.ca, A.fa⟩ (callN pg fuel (n + 1) "_law_made") 2) := by
    refine def_okN (fn := f__law_made) (k := 2 * n + 4) rfl T.F__law_made sc__law_made rfl rfl fun X W fx hX hr tk => ?_
    obtain ⟨cdv, A0, outer, s, H, E, rfl, rfl⟩ := hX
    have hN := sc__law_made.nd
    have hu := lt65 hr
    have hr1 := hr.mono (show 2 * n + 3 ≤ 2 * n + 4 by omega)
    have hr2 := hr.mono (show 2 * n + 1 + 1 ≤ 2 * n + 4 by omega)
    have hrs := hr.mono (show 2 * n + 1 + 3 ≤ 2 * n + 4 by omega)
    exact (bs_cons (s_set 2 hN v_non)
    (bs_cons (bs_tri (i := 3) rfl rfl hN rfl rfl ⟨rfl, by decide +kernel, .inl T.g_InvalidAmount⟩ tk JK.T (exm_InvalidAmount T) (fun W1 _ _ tk1 hp1 => (bs_cons (s_set 2 hN (v_bty (call_str_ok (strOk T call1_eq (D1 := D1)) hrs) T.n_str (v_asc (v_a (bw_ite (t_cmp (.inl rfl) (o_eq hu) (v_loc 0) (v_a v_str)) (v_sta tk1 hr1 D.f_Amount_of T.k_Amount_of T.b_Amount_of (v_cl T.g_Amount) T.st_Amount_of (v_asc (v_a (v_var 1)) v_asn) rfl) (v_sta tk1 hr1 D.f_Amount_named T.k_Amount_named T.b_Amount_named (v_cl T.g_Amount) T.st_Amount_named (v_asc (v_a (v_var 1)) v_asn) rfl))) v_asn)))
    bs_nil))
    (fun a oe d pn x hx hz hd hf => (bs_cons (s_set 2 hN (bw_tup (v_isc v_str (v_isc (bw_xis rfl (excC T (exc_own (n := n) (fuel := fuel) hx)) hz hd hf (xis_AskError T (exc_own (n := n) (fuel := fuel) hx)) rfl (by first | exact .inl rfl | exact .inr (.inl rfl)) (by decide +kernel) (by decide +kernel) (v_cl T.g_AskError) (fun _ r => r) rfl T.n_isinstance rfl rfl rfl) (v_isc (bw_xis rfl (excC T (exc_own (n := n) (fuel := fuel) hx)) hz hd hf (xis_InvalidProgram T (exc_own (n := n) (fuel := fuel) hx)) rfl (by first | exact .inl rfl | exact .inr (.inl rfl)) (by decide +kernel) (by decide +kernel) (v_cl T.g_InvalidProgram) (fun _ r => r) rfl T.n_isinstance rfl rfl rfl) v_isn)))) (hJ := Jx.keep (by simp)))
    bs_nil)))
    (bs_cons (bs_ret (v_mov 2))
    bs_nil)))
theorem bd_law (T : Tx K mg A fd) {n : Nat} (D : Lv P w K mg base A fd fuel n (2 * n + 3)) (D1 : Lv P w K mg base A fd fuel (n - 1) (2 * n + 1)) : FnOk P w K mg base (L2.CX P w) (2 * n + 5) (A.fa "law") (fd "law") ["_law_script"] (spN ⟨K, A.ca, A.fa⟩ (callN pg fuel (n + 1) "law") 1) := by
    refine def_okN (fn := f_law) (k := 2 * n + 4) rfl T.F_law sc_law rfl rfl fun X W fx hX hr tk => ?_
    obtain ⟨cdv, A0, outer, s, H, E, rfl, rfl⟩ := hX
    have hN := sc_law.nd
    have hu := lt65 hr
    have hr1 := hr.mono (show 2 * n + 3 ≤ 2 * n + 4 by omega)
    have hr2 := hr.mono (show 2 * n + 1 + 1 ≤ 2 * n + 4 by omega)
    have hrs := hr.mono (show 2 * n + 1 + 3 ≤ 2 * n + 4 by omega)
    exact (bs_cons (s_for (passes_of rfl) rfl (w_rng T.n_range (v_isc (v_blt (call_max_ok rfl) T.n_max (v_asc (v_a v_int) (v_asc (v_a (v_blt (call_min_ok rfl) T.n_min (v_asc (v_a v_int) (v_asc (v_a (v_blt (call_len_ok rfl) T.n_len (v_asc (v_loc 0) v_asn))) v_asn)))) v_asn))) v_isn)) (g_v 1 hN) (bs_cons (s_set 2 hN (v_call tk hr1 D.f__law_box T.k__law_box T.b__law_box T.g__law_box (v_asc (v_a (v_var 0)) (v_asc (v_a (v_var 1)) v_asn))))
    (bs_cons (s_for (passes_of rfl) rfl (w_rng T.n_range (v_isc v_int v_isn)) (g_v 3 hN) (bs_cons (s_set 4 hN (v_call tk hr1 D.f__law_any T.k__law_any T.b__law_any T.g__law_any (v_asc (v_loc 2) v_asn)))
    (bs_cons (s_set 5 hN (v_and (v_isi (isF_int T) (insF T) T.n_isinstance (v_loc 4) (v_ty T.n_int) (.ty "int")) (v_and (v_not (v_a (v_isi (isF_bool T) (insF T) T.n_isinstance (v_loc 4) (v_ty T.n_bool) (.ty "bool")))) (bw_bool1 (v_cmp op_ge_ok (v_loc 4) (v_a v_int))))))
    (bs_cons (s_set 6 hN (bw_tup (v_isc v_str (v_isc v_bl (v_isc v_bl v_isn)))))
    (bs_cons (bs_ife (t_cmp (.inr (.inl rfl)) (o_ne hu) (v_a (v_call tk hr1 D.f__law_made T.k__law_made T.b__law_made T.g__law_made (v_asc (v_a v_str) (v_asc (v_a (v_var 4)) v_asn)))) (v_a (bw_ite (t_loc (v_loc 5)) (v_bty (call_str_ok (strOk T call1_eq (D1 := D1)) hrs) T.n_str (v_asc (v_loc 4) v_asn)) (v_var 6))))
    (bs_cons (bs_ret v_bl)
    bs_nil)
    bs_nil)
    (bs_cons (bs_ife (t_cmp (.inr (.inl rfl)) (o_ne hu) (v_a (v_call tk hr1 D.f__law_made T.k__law_made T.b__law_made T.g__law_made (v_asc (v_a v_str) (v_asc (v_a (v_var 4)) v_asn)))) (v_a (bw_ite (t_val (v_call tk hr1 D.f__law_is_name T.k__law_is_name T.b__law_is_name T.g__law_is_name (v_asc (v_a (v_var 4)) v_asn))) (v_var 4) (v_var 6))))
    (bs_cons (bs_ret v_bl)
    bs_nil)
    bs_nil)
    (bs_cons (bs_ife (PW.pt (bw_or2 (t_cmp (.inr (.inl rfl)) (o_ne hu) (v_a (v_call tk hr1 D.f__law_made T.k__law_made T.b__law_made T.g__law_made (v_asc (v_a v_str) (v_asc (v_a v_int) v_asn)))) (v_a v_str)) (bw_or1 (t_cmp (.inr (.inl rfl)) (o_ne hu) (v_a (v_call tk hr1 D.f__law_made T.k__law_made T.b__law_made T.g__law_made (v_asc (v_a v_str) (v_asc (v_a v_str) v_asn)))) (v_a v_str)))))
    (bs_cons (bs_ret v_bl)
    bs_nil)
    bs_nil)
    bs_nil)))))))
    bs_nil)))
    (bs_cons (bs_ret v_bl)
    bs_nil))
theorem lv0 (T : Tx K mg A fd) {l : Nat} : Lv P w K mg base A fd fuel 0 (l + 1) := ⟨def_none T.F_is_name sc_is_name, def_none T.F_is_integer sc_is_integer, def_none T.F_is_whole sc_is_whole, def_none T.F_ordered sc_ordered, def_none T.F_Amount___init__ sc_Amount___init__, def_none T.F_Amount_of sc_Amount_of, def_none T.F_Amount_named sc_Amount_named, def_none T.F_Amount___str__ sc_Amount___str__, def_none T.F_summand_text sc_summand_text, def_none T.F__law_box sc__law_box, def_none T.F__law_take sc__law_take, def_none T.F__law_word sc__law_word, def_none T.F__law_any sc__law_any, def_none T.F__law_is_name sc__law_is_name, def_none T.F__law_made sc__law_made, def_none T.F_law sc_law⟩
theorem lvs (T : Tx K mg A fd) : ∀ n, Lv P w K mg base A fd fuel n (2 * n + 3) ∧ Lv P w K mg base A fd fuel (n - 1) (2 * n + 1)
  | 0 => ⟨lv0 T, lv0 T⟩
  | n + 1 =>
    have ⟨D, D1⟩ := lvs T n
    ⟨⟨bd_is_name T D D1, bd_is_integer T D D1, bd_is_whole T D D1, bd_ordered T D D1, bd_Amount___init__ T D D1, bd_Amount_of T D D1, bd_Amount_named T D D1, bd_Amount___str__ T D D1, bd_summand_text T D D1, bd__law_box T D D1, bd__law_take T D D1, bd__law_word T D D1, bd__law_any T D D1, bd__law_is_name T D D1, bd__law_made T D D1, bd_law T D D1⟩, D⟩
end
end K03
namespace K03
open PySem L2 Mini
theorem all_mk {l : PySem.W.OpenLaw} {w : World} {K : PySem.W.Frag} {h : Heap} {mg : Str → Option Value} {fa : Addr} {w_LETTERS : Value} {w_MOST_LETTERS : Value} {c_Amount : Addr} {c_AskError : Addr} {c_InvalidAmount : Addr} {c_InvalidProgram : Addr} {c_Open : Addr} {f_is_name : Addr} {od_is_name an_is_name : Option Addr} {sl_is_name : Array (Option Value)} {oc_is_name kV_is_name dc_is_name pm_is_name cd_is_name ct_is_name : Value} {f_is_integer : Addr} {od_is_integer an_is_integer : Option Addr} {sl_is_integer : Array (Option Value)} {oc_is_integer kV_is_integer dc_is_integer pm_is_integer cd_is_integer ct_is_integer : Value} {f_is_whole : Addr} {od_is_whole an_is_whole : Option Addr} {sl_is_whole : Array (Option Value)} {oc_is_whole kV_is_whole dc_is_whole pm_is_whole cd_is_whole ct_is_whole : Value} {f_ordered : Addr} {od_ordered an_ordered : Option Addr} {sl_ordered : Array (Option Value)} {oc_ordered kV_ordered dc_ordered pm_ordered cd_ordered ct_ordered : Value} {f_Amount___init__ : Addr} {od_Amount___init__ an_Amount___init__ : Option Addr} {sl_Amount___init__ : Array (Option Value)} {oc_Amount___init__ kV_Amount___init__ dc_Amount___init__ pm_Amount___init__ cd_Amount___init__ ct_Amount___init__ : Value} {f_Amount_of : Addr} {p_Amount_of : Addr} {r_Amount_of : List Value} {od_Amount_of an_Amount_of : Option Addr} {sl_Amount_of : Array (Option Value)} {oc_Amount_of kV_Amount_of dc_Amount_of pm_Amount_of cd_Amount_of ct_Amount_of : Value} {f_Amount_named : Addr} {p_Amount_named : Addr} {r_Amount_named : List Value} {od_Amount_named an_Amount_named : Option Addr} {sl_Amount_named : Array (Option Value)} {oc_Amount_named kV_Amount_named dc_Amount_named pm_Amount_named cd_Amount_named ct_Amount_named : Value} {f_Amount___str__ : Addr} {od_Amount___str__ an_Amount___str__ : Option Addr} {sl_Amount___str__ : Array (Option Value)} {oc_Amount___str__ kV_Amount___str__ dc_Amount___str__ pm_Amount___str__ cd_Amount___str__ ct_Amount___str__ : Value} {f_summand_text : Addr} {od_summand_text an_summand_text : Option Addr} {sl_summand_text : Array (Option Value)} {oc_summand_text kV_summand_text dc_summand_text pm_summand_text cd_summand_text ct_summand_text : Value} {f__law_box : Addr} {od__law_box an__law_box : Option Addr} {sl__law_box : Array (Option Value)} {oc__law_box kV__law_box dc__law_box pm__law_box cd__law_box ct__law_box : Value} {f__law_take : Addr} {od__law_take an__law_take : Option Addr} {sl__law_take : Array (Option Value)} {oc__law_take kV__law_take dc__law_take pm__law_take cd__law_take ct__law_take : Value} {f__law_word : Addr} {od__law_word an__law_word : Option Addr} {sl__law_word : Array (Option Value)} {oc__law_word kV__law_word dc__law_word pm__law_word cd__law_word ct__law_word : Value} {f__law_any : Addr} {od__law_any an__law_any : Option Addr} {sl__law_any : Array (Option Value)} {oc__law_any kV__law_any dc__law_any pm__law_any cd__law_any ct__law_any : Value} {f__law_is_name : Addr} {od__law_is_name an__law_is_name : Option Addr} {sl__law_is_name : Array (Option Value)} {oc__law_is_name kV__law_is_name dc__law_is_name pm__law_is_name cd__law_is_name ct__law_is_name : Value} {f__law_made : Addr} {od__law_made an__law_made : Option Addr} {sl__law_made : Array (Option Value)} {oc__law_made kV__law_made dc__law_made pm__law_made cd__law_made ct__law_made : Value} {f_law : Addr} {od_law an_law : Option Addr} {sl_law : Array (Option Value)} {oc_law kV_law dc_law pm_law cd_law ct_law : Value}
    (KX : K.In h) (GX : h.Ns mainGlobals mg) (hfa : mg "law" = some (.ref fa))
    (q_n_all : PySem.W.nsIn K mainGlobals "all" = some none)
    (q_n_bool : PySem.W.nsIn K mainGlobals "bool" = some none)
    (q_n_int : PySem.W.nsIn K mainGlobals "int" = some none)
    (q_n_isinstance : PySem.W.nsIn K mainGlobals "isinstance" = some none)
    (q_n_len : PySem.W.nsIn K mainGlobals "len" = some none)
    (q_n_max : PySem.W.nsIn K mainGlobals "max" = some none)
    (q_n_min : PySem.W.nsIn K mainGlobals "min" = some none)
    (q_n_range : PySem.W.nsIn K mainGlobals "range" = some none)
    (q_n_set : PySem.W.nsIn K mainGlobals "set" = some none)
    (q_n_sorted : PySem.W.nsIn K mainGlobals "sorted" = some none)
    (q_n_str : PySem.W.nsIn K mainGlobals "str" = some none)
    (q_n_tuple : PySem.W.nsIn K mainGlobals "tuple" = some none)
    (q_c_LETTERS : PySem.W.nsIn K mainGlobals "LETTERS" = some (some w_LETTERS))
    (q_w_LETTERS : RelV (.str (toS [97, 98, 99, 100, 101, 102, 103, 104, 105, 106, 107, 108, 109, 110, 111, 112, 113, 114, 115, 116, 117, 118, 119, 120, 121, 122])) w_LETTERS)
    (q_c_MOST_LETTERS : PySem.W.nsIn K mainGlobals "MOST_LETTERS" = some (some w_MOST_LETTERS))
    (q_w_MOST_LETTERS : RelV (.int 4) w_MOST_LETTERS)
    (q_g_Amount : PySem.W.nsIn K mainGlobals "Amount" = some (some (.ref c_Amount)))
    (q_g_AskError : PySem.W.nsIn K mainGlobals "AskError" = some (some (.ref c_AskError)))
    (q_g_InvalidAmount : PySem.W.nsIn K mainGlobals "InvalidAmount" = some (some (.ref c_InvalidAmount)))
    (q_g_InvalidProgram : PySem.W.nsIn K mainGlobals "InvalidProgram" = some (some (.ref c_InvalidProgram)))
    (q_g_Open : PySem.W.nsIn K mainGlobals "Open" = some (some (.ref c_Open)))
    (q_g_is_name : PySem.W.nsIn K mainGlobals "is_name" = some (some (.ref f_is_name)))
    (q_l_is_name : K.lookup f_is_name = some ⟨oc_is_name, od_is_name, .func (PySem.W.fnOf "is_name" "is_name" (defArgs s_is_name) (defBody s_is_name) (defScope s_is_name) .none kV_is_name dc_is_name pm_is_name an_is_name cd_is_name ct_is_name), sl_is_name⟩)
    (q_e_is_name : PySem.W.codeIn K cd_is_name "is_name" = true)
    (q_k_is_name : PySem.W.keepIn K (.ref f_is_name) = true)
    (q_g_is_integer : PySem.W.nsIn K mainGlobals "is_integer" = some (some (.ref f_is_integer)))
    (q_l_is_integer : K.lookup f_is_integer = some ⟨oc_is_integer, od_is_integer, .func (PySem.W.fnOf "is_integer" "is_integer" (defArgs s_is_integer) (defBody s_is_integer) (defScope s_is_integer) .none kV_is_integer dc_is_integer pm_is_integer an_is_integer cd_is_integer ct_is_integer), sl_is_integer⟩)
    (q_e_is_integer : PySem.W.codeIn K cd_is_integer "is_integer" = true)
    (q_k_is_integer : PySem.W.keepIn K (.ref f_is_integer) = true)
    (q_g_is_whole : PySem.W.nsIn K mainGlobals "is_whole" = some (some (.ref f_is_whole)))
    (q_l_is_whole : K.lookup f_is_whole = some ⟨oc_is_whole, od_is_whole, .func (PySem.W.fnOf "is_whole" "is_whole" (defArgs s_is_whole) (defBody s_is_whole) (defScope s_is_whole) .none kV_is_whole dc_is_whole pm_is_whole an_is_whole cd_is_whole ct_is_whole), sl_is_whole⟩)
    (q_e_is_whole : PySem.W.codeIn K cd_is_whole "is_whole" = true)
    (q_k_is_whole : PySem.W.keepIn K (.ref f_is_whole) = true)
    (q_g_ordered : PySem.W.nsIn K mainGlobals "ordered" = some (some (.ref f_ordered)))
    (q_l_ordered : K.lookup f_ordered = some ⟨oc_ordered, od_ordered, .func (PySem.W.fnOf "ordered" "ordered" (defArgs s_ordered) (defBody s_ordered) (defScope s_ordered) .none kV_ordered dc_ordered pm_ordered an_ordered cd_ordered ct_ordered), sl_ordered⟩)
    (q_e_ordered : PySem.W.codeIn K cd_ordered "ordered" = true)
    (q_k_ordered : PySem.W.keepIn K (.ref f_ordered) = true)
    (q_mf_Amount : PySem.W.findIn K (.ref c_Amount) "__init__" = some (some (.ref f_Amount___init__)))
    (q_mm_Amount : PySem.W.makesIn K c_Amount = true)
    (q_mi_Amount : PySem.W.isFn K (.ref f_Amount___init__) = true)
    (q_mk_Amount : PySem.W.keepIn K (.ref c_Amount) = true)
    (q_l_Amount___init__ : K.lookup f_Amount___init__ = some ⟨oc_Amount___init__, od_Amount___init__, .func (PySem.W.fnOf "__init__" "Amount.__init__" (defArgs s_Amount___init__) (defBody s_Amount___init__) (defScope s_Amount___init__) .none kV_Amount___init__ dc_Amount___init__ pm_Amount___init__ an_Amount___init__ cd_Amount___init__ ct_Amount___init__), sl_Amount___init__⟩)
    (q_e_Amount___init__ : PySem.W.codeIn K cd_Amount___init__ "Amount.__init__" = true)
    (q_k_Amount___init__ : PySem.W.keepIn K (.ref f_Amount___init__) = true)
    (q_sr_Amount_of : PySem.W.readsIn K c_Amount (.type "type") = true)
    (q_sg_Amount_of : PySem.W.specialIn K (.ref c_Amount) "__getattribute__" = some (some (.builtin "type.__getattribute__")))
    (q_sc_Amount_of : PySem.W.findCls K (.ref c_Amount) (.type "type") "of" = some (.get (.builtin "staticmethod.__get__") (.ref p_Amount_of) .none (.ref c_Amount)))
    (q_sq_Amount_of : PySem.W.recIn K p_Amount_of "staticmethod" = some (.ref f_Amount_of :: r_Amount_of))
    (q_l_Amount_of : K.lookup f_Amount_of = some ⟨oc_Amount_of, od_Amount_of, .func (PySem.W.fnOf "of" "Amount.of" (defArgs s_Amount_of) (defBody s_Amount_of) (defScope s_Amount_of) .none kV_Amount_of dc_Amount_of pm_Amount_of an_Amount_of cd_Amount_of ct_Amount_of), sl_Amount_of⟩)
    (q_e_Amount_of : PySem.W.codeIn K cd_Amount_of "Amount.of" = true)
    (q_k_Amount_of : PySem.W.keepIn K (.ref f_Amount_of) = true)
    (q_sr_Amount_named : PySem.W.readsIn K c_Amount (.type "type") = true)
    (q_sg_Amount_named : PySem.W.specialIn K (.ref c_Amount) "__getattribute__" = some (some (.builtin "type.__getattribute__")))
    (q_sc_Amount_named : PySem.W.findCls K (.ref c_Amount) (.type "type") "named" = some (.get (.builtin "staticmethod.__get__") (.ref p_Amount_named) .none (.ref c_Amount)))
    (q_sq_Amount_named : PySem.W.recIn K p_Amount_named "staticmethod" = some (.ref f_Amount_named :: r_Amount_named))
    (q_l_Amount_named : K.lookup f_Amount_named = some ⟨oc_Amount_named, od_Amount_named, .func (PySem.W.fnOf "named" "Amount.named" (defArgs s_Amount_named) (defBody s_Amount_named) (defScope s_Amount_named) .none kV_Amount_named dc_Amount_named pm_Amount_named an_Amount_named cd_Amount_named ct_Amount_named), sl_Amount_named⟩)
    (q_e_Amount_named : PySem.W.codeIn K cd_Amount_named "Amount.named" = true)
    (q_k_Amount_named : PySem.W.keepIn K (.ref f_Amount_named) = true)
    (q_tf_Amount___str__ : PySem.W.findIn K (.ref c_Amount) "__str__" = some (some (.ref f_Amount___str__)))
    (q_ti_Amount___str__ : PySem.W.isFn K (.ref f_Amount___str__) = true)
    (q_l_Amount___str__ : K.lookup f_Amount___str__ = some ⟨oc_Amount___str__, od_Amount___str__, .func (PySem.W.fnOf "__str__" "Amount.__str__" (defArgs s_Amount___str__) (defBody s_Amount___str__) (defScope s_Amount___str__) .none kV_Amount___str__ dc_Amount___str__ pm_Amount___str__ an_Amount___str__ cd_Amount___str__ ct_Amount___str__), sl_Amount___str__⟩)
    (q_e_Amount___str__ : PySem.W.codeIn K cd_Amount___str__ "Amount.__str__" = true)
    (q_k_Amount___str__ : PySem.W.keepIn K (.ref f_Amount___str__) = true)
    (q_g_summand_text : PySem.W.nsIn K mainGlobals "summand_text" = some (some (.ref f_summand_text)))
    (q_l_summand_text : K.lookup f_summand_text = some ⟨oc_summand_text, od_summand_text, .func (PySem.W.fnOf "summand_text" "summand_text" (defArgs s_summand_text) (defBody s_summand_text) (defScope s_summand_text) .none kV_summand_text dc_summand_text pm_summand_text an_summand_text cd_summand_text ct_summand_text), sl_summand_text⟩)
    (q_e_summand_text : PySem.W.codeIn K cd_summand_text "summand_text" = true)
    (q_k_summand_text : PySem.W.keepIn K (.ref f_summand_text) = true)
    (q_g__law_box : PySem.W.nsIn K mainGlobals "_law_box" = some (some (.ref f__law_box)))
    (q_l__law_box : K.lookup f__law_box = some ⟨oc__law_box, od__law_box, .func (PySem.W.fnOf "_law_box" "_law_box" (defArgs s__law_box) (defBody s__law_box) (defScope s__law_box) .none kV__law_box dc__law_box pm__law_box an__law_box cd__law_box ct__law_box), sl__law_box⟩)
    (q_e__law_box : PySem.W.codeIn K cd__law_box "_law_box" = true)
    (q_k__law_box : PySem.W.keepIn K (.ref f__law_box) = true)
    (q_g__law_take : PySem.W.nsIn K mainGlobals "_law_take" = some (some (.ref f__law_take)))
    (q_l__law_take : K.lookup f__law_take = some ⟨oc__law_take, od__law_take, .func (PySem.W.fnOf "_law_take" "_law_take" (defArgs s__law_take) (defBody s__law_take) (defScope s__law_take) .none kV__law_take dc__law_take pm__law_take an__law_take cd__law_take ct__law_take), sl__law_take⟩)
    (q_e__law_take : PySem.W.codeIn K cd__law_take "_law_take" = true)
    (q_k__law_take : PySem.W.keepIn K (.ref f__law_take) = true)
    (q_g__law_word : PySem.W.nsIn K mainGlobals "_law_word" = some (some (.ref f__law_word)))
    (q_l__law_word : K.lookup f__law_word = some ⟨oc__law_word, od__law_word, .func (PySem.W.fnOf "_law_word" "_law_word" (defArgs s__law_word) (defBody s__law_word) (defScope s__law_word) .none kV__law_word dc__law_word pm__law_word an__law_word cd__law_word ct__law_word), sl__law_word⟩)
    (q_e__law_word : PySem.W.codeIn K cd__law_word "_law_word" = true)
    (q_k__law_word : PySem.W.keepIn K (.ref f__law_word) = true)
    (q_g__law_any : PySem.W.nsIn K mainGlobals "_law_any" = some (some (.ref f__law_any)))
    (q_l__law_any : K.lookup f__law_any = some ⟨oc__law_any, od__law_any, .func (PySem.W.fnOf "_law_any" "_law_any" (defArgs s__law_any) (defBody s__law_any) (defScope s__law_any) .none kV__law_any dc__law_any pm__law_any an__law_any cd__law_any ct__law_any), sl__law_any⟩)
    (q_e__law_any : PySem.W.codeIn K cd__law_any "_law_any" = true)
    (q_k__law_any : PySem.W.keepIn K (.ref f__law_any) = true)
    (q_g__law_is_name : PySem.W.nsIn K mainGlobals "_law_is_name" = some (some (.ref f__law_is_name)))
    (q_l__law_is_name : K.lookup f__law_is_name = some ⟨oc__law_is_name, od__law_is_name, .func (PySem.W.fnOf "_law_is_name" "_law_is_name" (defArgs s__law_is_name) (defBody s__law_is_name) (defScope s__law_is_name) .none kV__law_is_name dc__law_is_name pm__law_is_name an__law_is_name cd__law_is_name ct__law_is_name), sl__law_is_name⟩)
    (q_e__law_is_name : PySem.W.codeIn K cd__law_is_name "_law_is_name" = true)
    (q_k__law_is_name : PySem.W.keepIn K (.ref f__law_is_name) = true)
    (q_g__law_made : PySem.W.nsIn K mainGlobals "_law_made" = some (some (.ref f__law_made)))
    (q_l__law_made : K.lookup f__law_made = some ⟨oc__law_made, od__law_made, .func (PySem.W.fnOf "_law_made" "_law_made" (defArgs s__law_made) (defBody s__law_made) (defScope s__law_made) .none kV__law_made dc__law_made pm__law_made an__law_made cd__law_made ct__law_made), sl__law_made⟩)
    (q_e__law_made : PySem.W.codeIn K cd__law_made "_law_made" = true)
    (q_k__law_made : PySem.W.keepIn K (.ref f__law_made) = true)
    (q_g_law : PySem.W.nsIn K mainGlobals "law" = some (some (.ref f_law)))
    (q_l_law : K.lookup f_law = some ⟨oc_law, od_law, .func (PySem.W.fnOf "law" "law" (defArgs s_law) (defBody s_law) (defScope s_law) .none kV_law dc_law pm_law an_law cd_law ct_law), sl_law⟩)
    (q_e_law : PySem.W.codeIn K cd_law "law" = true)
    (q_k_law : PySem.W.keepIn K (.ref f_law) = true)
    (q_pg_Amount : PySem.W.plainGet K c_Amount Str.empty = true)
    (q_hd_Amount : PySem.W.hasDictIn K c_Amount = true)
    (q_po_Amount : PySem.W.plainOver K c_Amount = true)
    (q_sa_Amount : PySem.W.findIn K (.ref c_Amount) "__setattr__" = some (some (.builtin "object.__setattr__")))
    (q_ga_Amount : PySem.W.findIn K (.ref c_Amount) "__class__" = some (some (.builtin "object.__class__")))
    (q_mro_Amount : PySem.W.mroIn K c_Amount (.type "object") = some true)
    (q_na_Amount_names : PySem.W.findIn K (.ref c_Amount) "names" = some none)
    (q_na_Amount_sums : PySem.W.findIn K (.ref c_Amount) "sums" = some none)
    (q_sp : PySem.W.specialIn K (.builtin "object.__class__") "__get__" = some (some (.builtin "getset_descriptor.__get__")))
    (q_tkc : PySem.W.takesIn K (.builtin "object.__class__") = some true)
    (q_sb_Amount_bool : PySem.W.subIn K (.ref c_Amount) (.type "bool") = some false)
    (q_sb_Amount_int : PySem.W.subIn K (.ref c_Amount) (.type "int") = some false)
    (q_sb_Amount_str : PySem.W.subIn K (.ref c_Amount) (.type "str") = some false)
    (q_x_InvalidAmount : PySem.W.excIn K c_InvalidAmount [.type "ValueError", .type "Exception", .type "BaseException", .type "object"] "ValueError.__new__" = true)
    (q_xk_InvalidAmount : PySem.W.keepIn K (.ref c_InvalidAmount) = true)
    (q_xs_InvalidAmount : PySem.W.subIn K (.ref c_InvalidAmount) (.type "BaseException") = some true)
    (q_xt_InvalidAmount : PySem.W.typeIn K (.ref c_InvalidAmount) = some (.type "type"))
    (q_kc_InvalidAmount : PySem.W.isClsIn K c_InvalidAmount = true)
    (q_kt_InvalidAmount : PySem.W.typeIn K (.ref c_InvalidAmount) = some (.type "type"))
    (q_sb_AskError_InvalidAmount : PySem.W.subIn K (.ref c_AskError) (.ref c_InvalidAmount) = some false)
    (q_xb_InvalidAmount : PySem.W.subIn K (.ref c_InvalidAmount) (.type "BaseException") = some true)
    (q_sb_InvalidAmount_InvalidAmount : PySem.W.subIn K (.ref c_InvalidAmount) (.ref c_InvalidAmount) = some true)
    (q_sb_InvalidProgram_InvalidAmount : PySem.W.subIn K (.ref c_InvalidProgram) (.ref c_InvalidAmount) = some false)
    (q_sb_Open_InvalidAmount : PySem.W.subIn K (.ref c_Open) (.ref c_InvalidAmount) = some false)
    (q_kc_AskError : PySem.W.isClsIn K c_AskError = true)
    (q_kt_AskError : PySem.W.typeIn K (.ref c_AskError) = some (.type "type"))
    (q_sb_AskError_AskError : PySem.W.subIn K (.ref c_AskError) (.ref c_AskError) = some true)
    (q_sb_InvalidAmount_AskError : PySem.W.subIn K (.ref c_InvalidAmount) (.ref c_AskError) = some true)
    (q_sb_InvalidProgram_AskError : PySem.W.subIn K (.ref c_InvalidProgram) (.ref c_AskError) = some true)
    (q_sb_Open_AskError : PySem.W.subIn K (.ref c_Open) (.ref c_AskError) = some true)
    (q_kc_InvalidProgram : PySem.W.isClsIn K c_InvalidProgram = true)
    (q_kt_InvalidProgram : PySem.W.typeIn K (.ref c_InvalidProgram) = some (.type "type"))
    (q_sb_AskError_InvalidProgram : PySem.W.subIn K (.ref c_AskError) (.ref c_InvalidProgram) = some false)
    (q_ne_AskError_InvalidProgram : c_AskError ≠ c_InvalidProgram)
    (q_sb_InvalidAmount_InvalidProgram : PySem.W.subIn K (.ref c_InvalidAmount) (.ref c_InvalidProgram) = some false)
    (q_ne_InvalidAmount_InvalidProgram : c_InvalidAmount ≠ c_InvalidProgram)
    (q_sb_InvalidProgram_InvalidProgram : PySem.W.subIn K (.ref c_InvalidProgram) (.ref c_InvalidProgram) = some true)
    (q_sb_Open_InvalidProgram : PySem.W.subIn K (.ref c_Open) (.ref c_InvalidProgram) = some false)
    (q_ne_Open_InvalidProgram : c_Open ≠ c_InvalidProgram)
    (q_echg_AskError : PySem.W.findIn K (.ref c_AskError) "__getattribute__" = some (some (.builtin "BaseException.__getattribute__")))
    (q_echk_AskError : PySem.W.findIn K (.ref c_AskError) "__getattr__" = some none)
    (q_echs_AskError : PySem.W.subIn K (.ref c_AskError) (.type "BaseException") = some true)
    (q_echd_AskError : PySem.W.hasDictIn K c_AskError = true)
    (q_echa_AskError : PySem.W.findIn K (.ref c_AskError) "__class__" = some (some (.builtin "object.__class__")))
    (q_echm_AskError : PySem.W.mroIn K c_AskError (.type "object") = some true)
    (q_echg_InvalidAmount : PySem.W.findIn K (.ref c_InvalidAmount) "__getattribute__" = some (some (.builtin "BaseException.__getattribute__")))
    (q_echk_InvalidAmount : PySem.W.findIn K (.ref c_InvalidAmount) "__getattr__" = some none)
    (q_echs_InvalidAmount : PySem.W.subIn K (.ref c_InvalidAmount) (.type "BaseException") = some true)
    (q_echd_InvalidAmount : PySem.W.hasDictIn K c_InvalidAmount = true)
    (q_echa_InvalidAmount : PySem.W.findIn K (.ref c_InvalidAmount) "__class__" = some (some (.builtin "object.__class__")))
    (q_echm_InvalidAmount : PySem.W.mroIn K c_InvalidAmount (.type "object") = some true)
    (q_echg_InvalidProgram : PySem.W.findIn K (.ref c_InvalidProgram) "__getattribute__" = some (some (.builtin "BaseException.__getattribute__")))
    (q_echk_InvalidProgram : PySem.W.findIn K (.ref c_InvalidProgram) "__getattr__" = some none)
    (q_echs_InvalidProgram : PySem.W.subIn K (.ref c_InvalidProgram) (.type "BaseException") = some true)
    (q_echd_InvalidProgram : PySem.W.hasDictIn K c_InvalidProgram = true)
    (q_echa_InvalidProgram : PySem.W.findIn K (.ref c_InvalidProgram) "__class__" = some (some (.builtin "object.__class__")))
    (q_echm_InvalidProgram : PySem.W.mroIn K c_InvalidProgram (.type "object") = some true)
    (q_echg_Open : PySem.W.findIn K (.ref c_Open) "__getattribute__" = some (some (.builtin "BaseException.__getattribute__")))
    (q_echk_Open : PySem.W.findIn K (.ref c_Open) "__getattr__" = some none)
    (q_echs_Open : PySem.W.subIn K (.ref c_Open) (.type "BaseException") = some true)
    (q_echd_Open : PySem.W.hasDictIn K c_Open = true)
    (q_echa_Open : PySem.W.findIn K (.ref c_Open) "__class__" = some (some (.builtin "object.__class__")))
    (q_echm_Open : PySem.W.mroIn K c_Open (.type "object") = some true)
    (pl : ∀ ns : List Int, ns.length ≤ 63 → ∃ e, callN pg 1000 10 "law" [.d (.lst (ns.map D.int))] = some (.ok (.d (.bl true)), e)) :
    ∃ fd : FuncData, (∀ (s : Shared) (v : Value), BindsTo s fd ⟨[v], []⟩ [("_law_script", v)]) ∧ ∀ base : Heap, K.In base → base.Ns mainGlobals mg → FnOk l.prog w K mg base (L2.CX l.prog w) (2 * 10 + 3) fa fd ["_law_script"] (spI K 63) := by
  obtain ⟨A, rfl, rfl, rfl, rfl, rfl, rfl, rfl, rfl, rfl, rfl, rfl, rfl, rfl, rfl, rfl, rfl, rfl, rfl, rfl, rfl, rfl⟩ : ∃ A : Adr, A.ca "Amount" = c_Amount ∧ A.ca "AskError" = c_AskError ∧ A.ca "InvalidAmount" = c_InvalidAmount ∧ A.ca "InvalidProgram" = c_InvalidProgram ∧ A.ca "Open" = c_Open ∧ A.fa "is_name" = f_is_name ∧ A.fa "is_integer" = f_is_integer ∧ A.fa "is_whole" = f_is_whole ∧ A.fa "ordered" = f_ordered ∧ A.fa "Amount.__init__" = f_Amount___init__ ∧ A.fa "Amount.of" = f_Amount_of ∧ A.fa "Amount.named" = f_Amount_named ∧ A.fa "Amount.__str__" = f_Amount___str__ ∧ A.fa "summand_text" = f_summand_text ∧ A.fa "_law_box" = f__law_box ∧ A.fa "_law_take" = f__law_take ∧ A.fa "_law_word" = f__law_word ∧ A.fa "_law_any" = f__law_any ∧ A.fa "_law_is_name" = f__law_is_name ∧ A.fa "_law_made" = f__law_made ∧ A.fa "law" = f_law :=
    ⟨⟨fun s => if s = "Amount" then c_Amount else if s = "AskError" then c_AskError else if s = "InvalidAmount" then c_InvalidAmount else if s = "InvalidProgram" then c_InvalidProgram else if s = "Open" then c_Open else c_Amount, fun s => if s = "is_name" then f_is_name else if s = "is_integer" then f_is_integer else if s = "is_whole" then f_is_whole else if s = "ordered" then f_ordered else if s = "Amount.__init__" then f_Amount___init__ else if s = "Amount.of" then f_Amount_of else if s = "Amount.named" then f_Amount_named else if s = "Amount.__str__" then f_Amount___str__ else if s = "summand_text" then f_summand_text else if s = "_law_box" then f__law_box else if s = "_law_take" then f__law_take else if s = "_law_word" then f__law_word else if s = "_law_any" then f__law_any else if s = "_law_is_name" then f__law_is_name else if s = "_law_made" then f__law_made else if s = "law" then f_law else f_is_name⟩, by simp, by simp, by simp, by simp, by simp, by simp, by simp, by simp, by simp, by simp, by simp, by simp, by simp, by simp, by simp, by simp, by simp, by simp, by simp, by simp, by simp⟩
  obtain ⟨fd, hd_is_name, hd_is_integer, hd_is_whole, hd_ordered, hd_Amount___init__, hd_Amount_of, hd_Amount_named, hd_Amount___str__, hd_summand_text, hd__law_box, hd__law_take, hd__law_word, hd__law_any, hd__law_is_name, hd__law_made, hd_law⟩ : ∃ fd : String → FuncData, fd "is_name" = PySem.W.fnOf "is_name" "is_name" (defArgs s_is_name) (defBody s_is_name) (defScope s_is_name) .none kV_is_name dc_is_name pm_is_name an_is_name cd_is_name ct_is_name ∧ fd "is_integer" = PySem.W.fnOf "is_integer" "is_integer" (defArgs s_is_integer) (defBody s_is_integer) (defScope s_is_integer) .none kV_is_integer dc_is_integer pm_is_integer an_is_integer cd_is_integer ct_is_integer ∧ fd "is_whole" = PySem.W.fnOf "is_whole" "is_whole" (defArgs s_is_whole) (defBody s_is_whole) (defScope s_is_whole) .none kV_is_whole dc_is_whole pm_is_whole an_is_whole cd_is_whole ct_is_whole ∧ fd "ordered" = PySem.W.fnOf "ordered" "ordered" (defArgs s_ordered) (defBody s_ordered) (defScope s_ordered) .none kV_ordered dc_ordered pm_ordered an_ordered cd_ordered ct_ordered ∧ fd "Amount.__init__" = PySem.W.fnOf "__init__" "Amount.__init__" (defArgs s_Amount___init__) (defBody s_Amount___init__) (defScope s_Amount___init__) .none kV_Amount___init__ dc_Amount___init__ pm_Amount___init__ an_Amount___init__ cd_Amount___init__ ct_Amount___init__ ∧ fd "Amount.of" = PySem.W.fnOf "of" "Amount.of" (defArgs s_Amount_of) (defBody s_Amount_of) (defScope s_Amount_of) .none kV_Amount_of dc_Amount_of pm_Amount_of an_Amount_of cd_Amount_of ct_Amount_of ∧ fd "Amount.named" = PySem.W.fnOf "named" "Amount.named" (defArgs s_Amount_named) (defBody s_Amount_named) (defScope s_Amount_named) .none kV_Amount_named dc_Amount_named pm_Amount_named an_Amount_named cd_Amount_named ct_Amount_named ∧ fd "Amount.__str__" = PySem.W.fnOf "__str__" "Amount.__str__" (defArgs s_Amount___str__) (defBody s_Amount___str__) (defScope s_Amount___str__) .none kV_Amount___str__ dc_Amount___str__ pm_Amount___str__ an_Amount___str__ cd_Amount___str__ ct_Amount___str__ ∧ fd "summand_text" = PySem.W.fnOf "summand_text" "summand_text" (defArgs s_summand_text) (defBody s_summand_text) (defScope s_summand_text) .none kV_summand_text dc_summand_text pm_summand_text an_summand_text cd_summand_text ct_summand_text ∧ fd "_law_box" = PySem.W.fnOf "_law_box" "_law_box" (defArgs s__law_box) (defBody s__law_box) (defScope s__law_box) .none kV__law_box dc__law_box pm__law_box an__law_box cd__law_box ct__law_box ∧ fd "_law_take" = PySem.W.fnOf "_law_take" "_law_take" (defArgs s__law_take) (defBody s__law_take) (defScope s__law_take) .none kV__law_take dc__law_take pm__law_take an__law_take cd__law_take ct__law_take ∧ fd "_law_word" = PySem.W.fnOf "_law_word" "_law_word" (defArgs s__law_word) (defBody s__law_word) (defScope s__law_word) .none kV__law_word dc__law_word pm__law_word an__law_word cd__law_word ct__law_word ∧ fd "_law_any" = PySem.W.fnOf "_law_any" "_law_any" (defArgs s__law_any) (defBody s__law_any) (defScope s__law_any) .none kV__law_any dc__law_any pm__law_any an__law_any cd__law_any ct__law_any ∧ fd "_law_is_name" = PySem.W.fnOf "_law_is_name" "_law_is_name" (defArgs s__law_is_name) (defBody s__law_is_name) (defScope s__law_is_name) .none kV__law_is_name dc__law_is_name pm__law_is_name an__law_is_name cd__law_is_name ct__law_is_name ∧ fd "_law_made" = PySem.W.fnOf "_law_made" "_law_made" (defArgs s__law_made) (defBody s__law_made) (defScope s__law_made) .none kV__law_made dc__law_made pm__law_made an__law_made cd__law_made ct__law_made ∧ fd "law" = PySem.W.fnOf "law" "law" (defArgs s_law) (defBody s_law) (defScope s_law) .none kV_law dc_law pm_law an_law cd_law ct_law :=
    ⟨fun s => if s = "is_name" then PySem.W.fnOf "is_name" "is_name" (defArgs s_is_name) (defBody s_is_name) (defScope s_is_name) .none kV_is_name dc_is_name pm_is_name an_is_name cd_is_name ct_is_name else if s = "is_integer" then PySem.W.fnOf "is_integer" "is_integer" (defArgs s_is_integer) (defBody s_is_integer) (defScope s_is_integer) .none kV_is_integer dc_is_integer pm_is_integer an_is_integer cd_is_integer ct_is_integer else if s = "is_whole" then PySem.W.fnOf "is_whole" "is_whole" (defArgs s_is_whole) (defBody s_is_whole) (defScope s_is_whole) .none kV_is_whole dc_is_whole pm_is_whole an_is_whole cd_is_whole ct_is_whole else if s = "ordered" then PySem.W.fnOf "ordered" "ordered" (defArgs s_ordered) (defBody s_ordered) (defScope s_ordered) .none kV_ordered dc_ordered pm_ordered an_ordered cd_ordered ct_ordered else if s = "Amount.__init__" then PySem.W.fnOf "__init__" "Amount.__init__" (defArgs s_Amount___init__) (defBody s_Amount___init__) (defScope s_Amount___init__) .none kV_Amount___init__ dc_Amount___init__ pm_Amount___init__ an_Amount___init__ cd_Amount___init__ ct_Amount___init__ else if s = "Amount.of" then PySem.W.fnOf "of" "Amount.of" (defArgs s_Amount_of) (defBody s_Amount_of) (defScope s_Amount_of) .none kV_Amount_of dc_Amount_of pm_Amount_of an_Amount_of cd_Amount_of ct_Amount_of else if s = "Amount.named" then PySem.W.fnOf "named" "Amount.named" (defArgs s_Amount_named) (defBody s_Amount_named) (defScope s_Amount_named) .none kV_Amount_named dc_Amount_named pm_Amount_named an_Amount_named cd_Amount_named ct_Amount_named else if s = "Amount.__str__" then PySem.W.fnOf "__str__" "Amount.__str__" (defArgs s_Amount___str__) (defBody s_Amount___str__) (defScope s_Amount___str__) .none kV_Amount___str__ dc_Amount___str__ pm_Amount___str__ an_Amount___str__ cd_Amount___str__ ct_Amount___str__ else if s = "summand_text" then PySem.W.fnOf "summand_text" "summand_text" (defArgs s_summand_text) (defBody s_summand_text) (defScope s_summand_text) .none kV_summand_text dc_summand_text pm_summand_text an_summand_text cd_summand_text ct_summand_text else if s = "_law_box" then PySem.W.fnOf "_law_box" "_law_box" (defArgs s__law_box) (defBody s__law_box) (defScope s__law_box) .none kV__law_box dc__law_box pm__law_box an__law_box cd__law_box ct__law_box else if s = "_law_take" then PySem.W.fnOf "_law_take" "_law_take" (defArgs s__law_take) (defBody s__law_take) (defScope s__law_take) .none kV__law_take dc__law_take pm__law_take an__law_take cd__law_take ct__law_take else if s = "_law_word" then PySem.W.fnOf "_law_word" "_law_word" (defArgs s__law_word) (defBody s__law_word) (defScope s__law_word) .none kV__law_word dc__law_word pm__law_word an__law_word cd__law_word ct__law_word else if s = "_law_any" then PySem.W.fnOf "_law_any" "_law_any" (defArgs s__law_any) (defBody s__law_any) (defScope s__law_any) .none kV__law_any dc__law_any pm__law_any an__law_any cd__law_any ct__law_any else if s = "_law_is_name" then PySem.W.fnOf "_law_is_name" "_law_is_name" (defArgs s__law_is_name) (defBody s__law_is_name) (defScope s__law_is_name) .none kV__law_is_name dc__law_is_name pm__law_is_name an__law_is_name cd__law_is_name ct__law_is_name else if s = "_law_made" then PySem.W.fnOf "_law_made" "_law_made" (defArgs s__law_made) (defBody s__law_made) (defScope s__law_made) .none kV__law_made dc__law_made pm__law_made an__law_made cd__law_made ct__law_made else if s = "law" then PySem.W.fnOf "law" "law" (defArgs s_law) (defBody s_law) (defScope s_law) .none kV_law dc_law pm_law an_law cd_law ct_law else PySem.W.fnOf "law" "law" (defArgs s_law) (defBody s_law) (defScope s_law) .none kV_law dc_law pm_law an_law cd_law ct_law, by simp, by simp, by simp, by simp, by simp, by simp, by simp, by simp, by simp, by simp, by simp, by simp, by simp, by simp, by simp, by simp⟩
  have T : Tx K mg A fd := ⟨PySem.W.mg_none_of KX GX q_n_all,
    PySem.W.mg_none_of KX GX q_n_bool,
    PySem.W.mg_none_of KX GX q_n_int,
    PySem.W.mg_none_of KX GX q_n_isinstance,
    PySem.W.mg_none_of KX GX q_n_len,
    PySem.W.mg_none_of KX GX q_n_max,
    PySem.W.mg_none_of KX GX q_n_min,
    PySem.W.mg_none_of KX GX q_n_range,
    PySem.W.mg_none_of KX GX q_n_set,
    PySem.W.mg_none_of KX GX q_n_sorted,
    PySem.W.mg_none_of KX GX q_n_str,
    PySem.W.mg_none_of KX GX q_n_tuple,
    ⟨_, PySem.W.mg_of KX GX q_c_LETTERS, q_w_LETTERS⟩,
    ⟨_, PySem.W.mg_of KX GX q_c_MOST_LETTERS, q_w_MOST_LETTERS⟩,
    PySem.W.mg_of KX GX q_g_Amount,
    PySem.W.mg_of KX GX q_g_AskError,
    PySem.W.mg_of KX GX q_g_InvalidAmount,
    PySem.W.mg_of KX GX q_g_InvalidProgram,
    PySem.W.mg_of KX GX q_g_Open,
    PySem.W.mg_of KX GX q_g_is_name,
    (by rw [hd_is_name]; exact fun_mk (st := s_is_name) q_l_is_name q_e_is_name q_k_is_name),
    PySem.W.mg_of KX GX q_g_is_integer,
    (by rw [hd_is_integer]; exact fun_mk (st := s_is_integer) q_l_is_integer q_e_is_integer q_k_is_integer),
    PySem.W.mg_of KX GX q_g_is_whole,
    (by rw [hd_is_whole]; exact fun_mk (st := s_is_whole) q_l_is_whole q_e_is_whole q_k_is_whole),
    PySem.W.mg_of KX GX q_g_ordered,
    (by rw [hd_ordered]; exact fun_mk (st := s_ordered) q_l_ordered q_e_ordered q_k_ordered),
    ⟨q_mm_Amount, q_mf_Amount, q_mi_Amount, q_mk_Amount⟩,
    (by rw [hd_Amount___init__]; exact fun_mk (st := s_Amount___init__) q_l_Amount___init__ q_e_Amount___init__ q_k_Amount___init__),
    ⟨q_sr_Amount_of, q_sg_Amount_of, _, _, q_sc_Amount_of, q_sq_Amount_of⟩,
    (by rw [hd_Amount_of]; exact fun_mk (st := s_Amount_of) q_l_Amount_of q_e_Amount_of q_k_Amount_of),
    ⟨q_sr_Amount_named, q_sg_Amount_named, _, _, q_sc_Amount_named, q_sq_Amount_named⟩,
    (by rw [hd_Amount_named]; exact fun_mk (st := s_Amount_named) q_l_Amount_named q_e_Amount_named q_k_Amount_named),
    ⟨q_tf_Amount___str__, q_ti_Amount___str__⟩,
    (by rw [hd_Amount___str__]; exact fun_mk (st := s_Amount___str__) q_l_Amount___str__ q_e_Amount___str__ q_k_Amount___str__),
    PySem.W.mg_of KX GX q_g_summand_text,
    (by rw [hd_summand_text]; exact fun_mk (st := s_summand_text) q_l_summand_text q_e_summand_text q_k_summand_text),
    PySem.W.mg_of KX GX q_g__law_box,
    (by rw [hd__law_box]; exact fun_mk (st := s__law_box) q_l__law_box q_e__law_box q_k__law_box),
    PySem.W.mg_of KX GX q_g__law_take,
    (by rw [hd__law_take]; exact fun_mk (st := s__law_take) q_l__law_take q_e__law_take q_k__law_take),
    PySem.W.mg_of KX GX q_g__law_word,
    (by rw [hd__law_word]; exact fun_mk (st := s__law_word) q_l__law_word q_e__law_word q_k__law_word),
    PySem.W.mg_of KX GX q_g__law_any,
    (by rw [hd__law_any]; exact fun_mk (st := s__law_any) q_l__law_any q_e__law_any q_k__law_any),
    PySem.W.mg_of KX GX q_g__law_is_name,
    (by rw [hd__law_is_name]; exact fun_mk (st := s__law_is_name) q_l__law_is_name q_e__law_is_name q_k__law_is_name),
    PySem.W.mg_of KX GX q_g__law_made,
    (by rw [hd__law_made]; exact fun_mk (st := s__law_made) q_l__law_made q_e__law_made q_k__law_made),
    PySem.W.mg_of KX GX q_g_law,
    (by rw [hd_law]; exact fun_mk (st := s_law) q_l_law q_e_law q_k_law),
    ⟨q_pg_Amount, q_hd_Amount, q_po_Amount, q_sa_Amount⟩,
    q_ga_Amount,
    q_mro_Amount,
    q_na_Amount_names,
    q_na_Amount_sums,
    q_sp,
    q_tkc,
    kit_ty (by decide +kernel),
    kit_ty (by decide +kernel),
    kit_ty (by decide +kernel),
    kit_ty (by decide +kernel),
    kit_ty (by decide +kernel),
    kit_ty (by decide +kernel),
    kit_own q_sb_Amount_bool,
    kit_ty (by decide +kernel),
    kit_ty (by decide +kernel),
    kit_ty (by decide +kernel),
    kit_ty (by decide +kernel),
    kit_ty (by decide +kernel),
    kit_ty (by decide +kernel),
    kit_own q_sb_Amount_int,
    kit_ty (by decide +kernel),
    kit_ty (by decide +kernel),
    kit_ty (by decide +kernel),
    kit_ty (by decide +kernel),
    kit_ty (by decide +kernel),
    kit_ty (by decide +kernel),
    kit_own q_sb_Amount_str,
    q_x_InvalidAmount,
    q_xk_InvalidAmount,
    q_xs_InvalidAmount,
    q_xt_InvalidAmount,
    exm_ref q_xb_InvalidAmount q_kc_InvalidAmount q_kt_InvalidAmount q_sb_AskError_InvalidAmount,
    exm_ref q_xb_InvalidAmount q_kc_InvalidAmount q_kt_InvalidAmount q_sb_InvalidAmount_InvalidAmount,
    exm_ref q_xb_InvalidAmount q_kc_InvalidAmount q_kt_InvalidAmount q_sb_InvalidProgram_InvalidAmount,
    exm_ref q_xb_InvalidAmount q_kc_InvalidAmount q_kt_InvalidAmount q_sb_Open_InvalidAmount,
    kit_ref q_kc_AskError q_kt_AskError q_sb_AskError_AskError (.inl rfl),
    kit_ref q_kc_AskError q_kt_AskError q_sb_InvalidAmount_AskError (.inl rfl),
    kit_ref q_kc_AskError q_kt_AskError q_sb_InvalidProgram_AskError (.inl rfl),
    kit_ref q_kc_AskError q_kt_AskError q_sb_Open_AskError (.inl rfl),
    kit_ref q_kc_InvalidProgram q_kt_InvalidProgram q_sb_AskError_InvalidProgram (.inr q_ne_AskError_InvalidProgram),
    kit_ref q_kc_InvalidProgram q_kt_InvalidProgram q_sb_InvalidAmount_InvalidProgram (.inr q_ne_InvalidAmount_InvalidProgram),
    kit_ref q_kc_InvalidProgram q_kt_InvalidProgram q_sb_InvalidProgram_InvalidProgram (.inl rfl),
    kit_ref q_kc_InvalidProgram q_kt_InvalidProgram q_sb_Open_InvalidProgram (.inr q_ne_Open_InvalidProgram),
    ⟨q_echg_AskError, q_echk_AskError, q_echs_AskError, q_echd_AskError, q_echa_AskError, q_sp, q_tkc, q_echm_AskError⟩,
    ⟨q_echg_InvalidAmount, q_echk_InvalidAmount, q_echs_InvalidAmount, q_echd_InvalidAmount, q_echa_InvalidAmount, q_sp, q_tkc, q_echm_InvalidAmount⟩,
    ⟨q_echg_InvalidProgram, q_echk_InvalidProgram, q_echs_InvalidProgram, q_echd_InvalidProgram, q_echa_InvalidProgram, q_sp, q_tkc, q_echm_InvalidProgram⟩,
    ⟨q_echg_Open, q_echk_Open, q_echs_Open, q_echd_Open, q_echa_Open, q_sp, q_tkc, q_echm_Open⟩⟩
  have e := hfa.symm.trans T.g_law
  cases e
  refine ⟨fd "law", fun s v => by rw [hd_law]; exact .of_eq rfl, fun base _ _ => law_of (ca := A.ca) (fa := A.fa) pl (lvs T 10).1.f_law⟩
end K03
open PySem PySem.W PyProof.Rows
set_option maxRecDepth 100000 in
set_option maxHeartbeats 0 in
theorem PySem.Challenge.cw_asklater_k03_amounts_refused_holds : PySem.Challenge.rw_asklater_k03_amounts_refused.Holds := by
  w_on; o_law; k_head; (case hw => w_witness2)
  k_fill
  refine Mini.law_walk (l := PySem.Challenge.rw_asklater_k03_amounts_refused) (m := 63) (k := 2 * 10 + 3) (x := "_law_script") rfl (by decide) rfl ⟨rfl, by decide, by decide⟩ (fun w h Y => PySem.W.kIn_of Y) ?F
  case F =>
    intro w mg fa h KX G hmg
    refine' K03.all_mk KX G hmg ?q_n_all ?q_n_bool ?q_n_int ?q_n_isinstance ?q_n_len ?q_n_max ?q_n_min ?q_n_range ?q_n_set ?q_n_sorted ?q_n_str ?q_n_tuple ?q_c_LETTERS ?q_w_LETTERS ?q_c_MOST_LETTERS ?q_w_MOST_LETTERS ?q_g_Amount ?q_g_AskError ?q_g_InvalidAmount ?q_g_InvalidProgram ?q_g_Open ?q_g_is_name ?q_l_is_name ?q_e_is_name ?q_k_is_name ?q_g_is_integer ?q_l_is_integer ?q_e_is_integer ?q_k_is_integer ?q_g_is_whole ?q_l_is_whole ?q_e_is_whole ?q_k_is_whole ?q_g_ordered ?q_l_ordered ?q_e_ordered ?q_k_ordered ?q_mf_Amount ?q_mm_Amount ?q_mi_Amount ?q_mk_Amount ?q_l_Amount___init__ ?q_e_Amount___init__ ?q_k_Amount___init__ ?q_sr_Amount_of ?q_sg_Amount_of ?q_sc_Amount_of ?q_sq_Amount_of ?q_l_Amount_of ?q_e_Amount_of ?q_k_Amount_of ?q_sr_Amount_named ?q_sg_Amount_named ?q_sc_Amount_named ?q_sq_Amount_named ?q_l_Amount_named ?q_e_Amount_named ?q_k_Amount_named ?q_tf_Amount___str__ ?q_ti_Amount___str__ ?q_l_Amount___str__ ?q_e_Amount___str__ ?q_k_Amount___str__ ?q_g_summand_text ?q_l_summand_text ?q_e_summand_text ?q_k_summand_text ?q_g__law_box ?q_l__law_box ?q_e__law_box ?q_k__law_box ?q_g__law_take ?q_l__law_take ?q_e__law_take ?q_k__law_take ?q_g__law_word ?q_l__law_word ?q_e__law_word ?q_k__law_word ?q_g__law_any ?q_l__law_any ?q_e__law_any ?q_k__law_any ?q_g__law_is_name ?q_l__law_is_name ?q_e__law_is_name ?q_k__law_is_name ?q_g__law_made ?q_l__law_made ?q_e__law_made ?q_k__law_made ?q_g_law ?q_l_law ?q_e_law ?q_k_law ?q_pg_Amount ?q_hd_Amount ?q_po_Amount ?q_sa_Amount ?q_ga_Amount ?q_mro_Amount ?q_na_Amount_names ?q_na_Amount_sums ?q_sp ?q_tkc ?q_sb_Amount_bool ?q_sb_Amount_int ?q_sb_Amount_str ?q_x_InvalidAmount ?q_xk_InvalidAmount ?q_xs_InvalidAmount ?q_xt_InvalidAmount ?q_kc_InvalidAmount ?q_kt_InvalidAmount ?q_sb_AskError_InvalidAmount ?q_xb_InvalidAmount ?q_sb_InvalidAmount_InvalidAmount ?q_sb_InvalidProgram_InvalidAmount ?q_sb_Open_InvalidAmount ?q_kc_AskError ?q_kt_AskError ?q_sb_AskError_AskError ?q_sb_InvalidAmount_AskError ?q_sb_InvalidProgram_AskError ?q_sb_Open_AskError ?q_kc_InvalidProgram ?q_kt_InvalidProgram ?q_sb_AskError_InvalidProgram ?q_ne_AskError_InvalidProgram ?q_sb_InvalidAmount_InvalidProgram ?q_ne_InvalidAmount_InvalidProgram ?q_sb_InvalidProgram_InvalidProgram ?q_sb_Open_InvalidProgram ?q_ne_Open_InvalidProgram ?q_echg_AskError ?q_echk_AskError ?q_echs_AskError ?q_echd_AskError ?q_echa_AskError ?q_echm_AskError ?q_echg_InvalidAmount ?q_echk_InvalidAmount ?q_echs_InvalidAmount ?q_echd_InvalidAmount ?q_echa_InvalidAmount ?q_echm_InvalidAmount ?q_echg_InvalidProgram ?q_echk_InvalidProgram ?q_echs_InvalidProgram ?q_echd_InvalidProgram ?q_echa_InvalidProgram ?q_echm_InvalidProgram ?q_echg_Open ?q_echk_Open ?q_echs_Open ?q_echd_Open ?q_echa_Open ?q_echm_Open K03.plain
    (case q_n_all => k_is)
    (case q_n_bool => k_is)
    (case q_n_int => k_is)
    (case q_n_isinstance => k_is)
    (case q_n_len => k_is)
    (case q_n_max => k_is)
    (case q_n_min => k_is)
    (case q_n_range => k_is)
    (case q_n_set => k_is)
    (case q_n_sorted => k_is)
    (case q_n_str => k_is)
    (case q_n_tuple => k_is)
    (case q_c_LETTERS => k_is)
    (case q_w_LETTERS => first | exact ⟨_, rfl⟩ | with_unfolding_all exact ⟨_, rfl⟩)
    (case q_c_MOST_LETTERS => k_is)
    (case q_w_MOST_LETTERS => first | exact ⟨_, rfl⟩ | with_unfolding_all exact ⟨_, rfl⟩)
    (case q_g_Amount => k_is)
    (case q_g_AskError => k_is)
    (case q_g_InvalidAmount => k_is)
    (case q_g_InvalidProgram => k_is)
    (case q_g_Open => k_is)
    (case q_g_is_name => k_is)
    (case q_l_is_name => k_is)
    (case q_e_is_name => k_is)
    (case q_k_is_name => k_is)
    (case q_g_is_integer => k_is)
    (case q_l_is_integer => k_is)
    (case q_e_is_integer => k_is)
    (case q_k_is_integer => k_is)
    (case q_g_is_whole => k_is)
    (case q_l_is_whole => k_is)
    (case q_e_is_whole => k_is)
    (case q_k_is_whole => k_is)
    (case q_g_ordered => k_is)
    (case q_l_ordered => k_is)
    (case q_e_ordered => k_is)
    (case q_k_ordered => k_is)
    (case q_mf_Amount => k_is)
    (case q_mm_Amount => k_is)
    (case q_mi_Amount => k_is)
    (case q_mk_Amount => k_is)
    (case q_l_Amount___init__ => k_is)
    (case q_e_Amount___init__ => k_is)
    (case q_k_Amount___init__ => k_is)
    (case q_sr_Amount_of => k_is)
    (case q_sg_Amount_of => k_is)
    (case q_sc_Amount_of => k_is)
    (case q_sq_Amount_of => k_is)
    (case q_l_Amount_of => k_is)
    (case q_e_Amount_of => k_is)
    (case q_k_Amount_of => k_is)
    (case q_sr_Amount_named => k_is)
    (case q_sg_Amount_named => k_is)
    (case q_sc_Amount_named => k_is)
    (case q_sq_Amount_named => k_is)
    (case q_l_Amount_named => k_is)
    (case q_e_Amount_named => k_is)
    (case q_k_Amount_named => k_is)
    (case q_tf_Amount___str__ => k_is)
    (case q_ti_Amount___str__ => k_is)
    (case q_l_Amount___str__ => k_is)
    (case q_e_Amount___str__ => k_is)
    (case q_k_Amount___str__ => k_is)
    (case q_g_summand_text => k_is)
    (case q_l_summand_text => k_is)
    (case q_e_summand_text => k_is)
    (case q_k_summand_text => k_is)
    (case q_g__law_box => k_is)
    (case q_l__law_box => k_is)
    (case q_e__law_box => k_is)
    (case q_k__law_box => k_is)
    (case q_g__law_take => k_is)
    (case q_l__law_take => k_is)
    (case q_e__law_take => k_is)
    (case q_k__law_take => k_is)
    (case q_g__law_word => k_is)
    (case q_l__law_word => k_is)
    (case q_e__law_word => k_is)
    (case q_k__law_word => k_is)
    (case q_g__law_any => k_is)
    (case q_l__law_any => k_is)
    (case q_e__law_any => k_is)
    (case q_k__law_any => k_is)
    (case q_g__law_is_name => k_is)
    (case q_l__law_is_name => k_is)
    (case q_e__law_is_name => k_is)
    (case q_k__law_is_name => k_is)
    (case q_g__law_made => k_is)
    (case q_l__law_made => k_is)
    (case q_e__law_made => k_is)
    (case q_k__law_made => k_is)
    (case q_g_law => k_is)
    (case q_l_law => k_is)
    (case q_e_law => k_is)
    (case q_k_law => k_is)
    (case q_pg_Amount => k_is)
    (case q_hd_Amount => k_is)
    (case q_po_Amount => k_is)
    (case q_sa_Amount => k_is)
    (case q_ga_Amount => k_is)
    (case q_mro_Amount => k_is)
    (case q_na_Amount_names => k_is)
    (case q_na_Amount_sums => k_is)
    (case q_sp => k_is)
    (case q_tkc => k_is)
    (case q_sb_Amount_bool => k_is)
    (case q_sb_Amount_int => k_is)
    (case q_sb_Amount_str => k_is)
    (case q_x_InvalidAmount => k_exc)
    (case q_xk_InvalidAmount => k_is)
    (case q_xs_InvalidAmount => k_is)
    (case q_xt_InvalidAmount => k_is)
    (case q_kc_InvalidAmount => k_is)
    (case q_kt_InvalidAmount => k_is)
    (case q_sb_AskError_InvalidAmount => k_is)
    (case q_xb_InvalidAmount => k_is)
    (case q_sb_InvalidAmount_InvalidAmount => k_is)
    (case q_sb_InvalidProgram_InvalidAmount => k_is)
    (case q_sb_Open_InvalidAmount => k_is)
    (case q_kc_AskError => k_is)
    (case q_kt_AskError => k_is)
    (case q_sb_AskError_AskError => k_is)
    (case q_sb_InvalidAmount_AskError => k_is)
    (case q_sb_InvalidProgram_AskError => k_is)
    (case q_sb_Open_AskError => k_is)
    (case q_kc_InvalidProgram => k_is)
    (case q_kt_InvalidProgram => k_is)
    (case q_sb_AskError_InvalidProgram => k_is)
    (case q_ne_AskError_InvalidProgram => decide)
    (case q_sb_InvalidAmount_InvalidProgram => k_is)
    (case q_ne_InvalidAmount_InvalidProgram => decide)
    (case q_sb_InvalidProgram_InvalidProgram => k_is)
    (case q_sb_Open_InvalidProgram => k_is)
    (case q_ne_Open_InvalidProgram => decide)
    (case q_echg_AskError => k_is)
    (case q_echk_AskError => k_is)
    (case q_echs_AskError => k_is)
    (case q_echd_AskError => k_is)
    (case q_echa_AskError => k_is)
    (case q_echm_AskError => k_is)
    (case q_echg_InvalidAmount => k_is)
    (case q_echk_InvalidAmount => k_is)
    (case q_echs_InvalidAmount => k_is)
    (case q_echd_InvalidAmount => k_is)
    (case q_echa_InvalidAmount => k_is)
    (case q_echm_InvalidAmount => k_is)
    (case q_echg_InvalidProgram => k_is)
    (case q_echk_InvalidProgram => k_is)
    (case q_echs_InvalidProgram => k_is)
    (case q_echd_InvalidProgram => k_is)
    (case q_echa_InvalidProgram => k_is)
    (case q_echm_InvalidProgram => k_is)
    (case q_echg_Open => k_is)
    (case q_echk_Open => k_is)
    (case q_echs_Open => k_is)
    (case q_echd_Open => k_is)
    (case q_echa_Open => k_is)
    (case q_echm_Open => k_is)
