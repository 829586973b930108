import PyProof.Rows.All
import Wide.All
import OpenK.AllK
import Wide.FinOn
import HandS.ForMost
import HandS.TupAny
import HandS.TupMul
import HandS.Wide
import HandS.WideBits
import HandS.IsInst
import HandS.Deep
import HandS.Style
import HandS.Flow
import HandS.Zip
import HandS.Defaults
import HandS.MakeKwOnly
import HandS.Text
import HandS.Dict
import HandS.Ends
import HandS.HeadEnd
import PyProof.EqKinds
import PyProof.NeKinds
import HandS.FStr
import HandS.Conv
import HandS.SetFor
import HandS.Iter
import HandS.Zip0
import HandS.Exc
import HandS.HeadHook1
import HandS.HeadHook2
import HandS.More
import HandS.Words
import HandS.WordsExc
import HandS.Head0
import HandS.Head1
import HandS.Head2
import HandS.HeadHook3
import HandS.HeadHook4
import KE.KStrBytes
import PySem.Challenge.RW_copyring_k05_rings_compared
section
set_option Elab.async false
set_option linter.all false
/-! Pm1: the small values, the small store, the small syntax and its evaluator. -/
namespace Pm
open PySem

/-- a value that never changes -/
inductive W where
  | non
  | bl (b : Bool)
  | int (i : Int)
  | str (s : Str)
  | ty (n : String)
  | fn (x : String)
  | tup (xs : List W)
  | lst (xs : List W)
  | dct (kvs : List (W × W))
  | obj (C : String) (fs : List (Str × W))
  deriving Inhabited

/-- what stands at a place of the store -/
inductive MO where
  | lst (ws : List W)
  | dct (kvs : List (W × W))
  | ins (C : String) (fs : List (Str × W))
  deriving Inhabited

inductive U where
  | p (w : W)
  | loc (n : Nat)
  deriving Inhabited

abbrev Sto := List (Option MO)
inductive Res (α : Type) where
  | ok (a : α) (S : Sto)
  | err (C : String) (fs : List (Str × W)) (S : Sto)
  | bad
abbrev M (α : Type) := Sto → Res α
def M.bind {α β : Type} (m : M α) (f : α → M β) : M β := fun S => match m S with
  | .ok a S' => f a S'
  | .err C fs S' => .err C fs S'
  | .bad => .bad
def M.pure {α : Type} (a : α) : M α := fun S => .ok a S
instance : Monad M where
  pure := M.pure
  bind := M.bind
def badM {α : Type} : M α := fun _ => .bad
def guardM (b : Bool) : M Unit := fun S => if b = true then .ok () S else .bad

mutual
def W.beq : W → W → Bool
  | .non, .non => true
  | .bl a, .bl b => a == b
  | .int a, .int b => a == b
  | .str a, .str b => a == b
  | .ty a, .ty b => a == b
  | .fn a, .fn b => a == b
  | .tup a, .tup b => W.beqL a b
  | .lst a, .lst b => W.beqL a b
  | .dct a, .dct b => W.beqD a b
  | .obj C a, .obj D b => C == D && W.beqF a b
  | _, _ => false
def W.beqL : List W → List W → Bool
  | [], [] => true
  | a :: as, b :: bs => W.beq a b && W.beqL as bs
  | _, _ => false
def W.beqD : List (W × W) → List (W × W) → Bool
  | [], [] => true
  | (a, c) :: as, (b, d) :: bs => W.beq a b && (W.beq c d && W.beqD as bs)
  | _, _ => false
def W.beqF : List (Str × W) → List (Str × W) → Bool
  | [], [] => true
  | (a, c) :: as, (b, d) :: bs => a == b && (W.beq c d && W.beqF as bs)
  | _, _ => false
end

mutual
/-- Python's == on plain data -/
def eqW : W → W → Bool
  | .non, .non => true
  | .bl a, .bl b => a == b
  | .bl a, .int b => (if a then 1 else 0) == b
  | .int a, .bl b => a == (if b then 1 else 0)
  | .int a, .int b => a == b
  | .str a, .str b => a == b
  | .tup a, .tup b => eqWs a b
  | .lst a, .lst b => eqWs a b
  | _, _ => false
def eqWs : List W → List W → Bool
  | [], [] => true
  | a :: as, b :: bs => eqW a b && eqWs as bs
  | _, _ => false
end
/-- plain data of a depth: no dict, no object within -/
def dataN : Nat → W → Bool
  | _, .non => true
  | _, .bl _ => true
  | _, .int _ => true
  | _, .str s => s.cps.all (· < 0x110000)
  | n + 1, .tup xs => xs.all (dataN n)
  | n + 1, .lst xs => xs.all (dataN n)
  | _, _ => false
abbrev dataW (w : W) : Bool := dataN 60 w
/-- flat data -/
def flatW : W → Bool
  | .non => true
  | .bl _ => true
  | .int _ => true
  | .str _ => true
  | _ => false

/-! ### reading, freezing -/
def MO.frz : MO → W
  | .lst ws => .lst ws
  | .dct kvs => .dct kvs
  | .ins C fs => .obj C fs
/-- what a value is now (a place is read) -/
def rdU : U → M W
  | .p w => fun S => .ok w S
  | .loc n => fun S => match S[n]? with
    | some (some o) => .ok o.frz S
    | _ => .bad
/-- a value to be kept within another: a place is frozen, its name dies -/
def frU : U → M W
  | .p w => fun S => .ok w S
  | .loc n => fun S => match S[n]? with
    | some (some o) => .ok o.frz (S.set n none)
    | _ => .bad
def frUs : List U → M (List W)
  | [] => fun S => .ok [] S
  | u :: us => M.bind (frU u) fun w => M.bind (frUs us) fun ws => fun S => .ok (w :: ws) S
def rdUs : List U → M (List W)
  | [] => fun S => .ok [] S
  | u :: us => M.bind (rdU u) fun w => M.bind (rdUs us) fun ws => fun S => .ok (w :: ws) S

/-! ### primitives -/
inductive Pr where
  | add | sub | mul | fdiv | mod | pow | band | shr | neg
  | eq | ne | lt | le | gt | ge | in_ | notin | isn | notn | isb (b : Bool)
  | tup | lst (m : Bool) | dct0
  | len | all | any | sum | min1 | max1 | min2 | max2 | sorted | abs | divmod | str | repr | int | tuple | list (m : Bool) | lrange (m : Bool) | trange | bool | set_
  | ix | sl (lo hi : Bool) | rev | frz
  | join | split | count | index | find | find2 | replace | upper | lower
  | append | extend | insert | pop | popat
  | get1 | get2 | setd | items | keys | values
  | fstr (ps : List (Option Str))
  | isi (ts : List String)
  | range1 | range2 | range3 | enum | enum2 | zip
  deriving Inhabited

def bigLine : Nat := 1000000
def strLine : Nat := 2 ^ 1900
def mulLine : Nat := 2 ^ 4000
/-- a negative place counts from the end -/
abbrev ixAt (n : Nat) (i : Int) : Option Nat := L2.ixN n i
/-- a slice -/
def cutL {α : Type} (xs : List α) (lo hi : Option Int) : List α := (xs.drop (HT.sIx xs.length 0 lo)).take (HT.sIx xs.length xs.length hi - HT.sIx xs.length 0 lo)
def strL (s : Str) : List W := s.cps.toList.map fun c => .str ⟨#[c]⟩
/-- the items that are walked -/
def itemsW : W → Option (List W)
  | .tup xs => some xs
  | .lst xs => some xs
  | .str s => some (strL s)
  | _ => none
def seqW : W → Option (List W)
  | .tup xs => some xs
  | .lst xs => some xs
  | _ => none
def lenW : W → Option Nat
  | .tup xs => some xs.length
  | .lst xs => some xs.length
  | .str s => if s.length ≤ bigLine then some s.length else none
  | _ => none
def boolsW : List W → Option (List Bool)
  | [] => some []
  | .bl b :: ws => (boolsW ws).map (b :: ·)
  | _ => none
def intsW : List W → Option (List Int)
  | [] => some []
  | .int i :: ws => (intsW ws).map (i :: ·)
  | _ => none
def strsW : List W → Option (List Str)
  | [] => some []
  | .str i :: ws => (strsW ws).map (i :: ·)
  | _ => none
def b2i (b : Bool) : Int := if b then 1 else 0
/-- ints and bools -/
def numsW : List W → Option (List Int)
  | [] => some []
  | .int i :: ws => (numsW ws).map (i :: ·)
  | .bl b :: ws => (numsW ws).map (b2i b :: ·)
  | _ => none
def truW : W → Option Bool
  | .non => some false
  | .bl b => some b
  | .int i => some (i != 0)
  | .str s => if s.length ≤ bigLine then some ((s.length : Int) != 0) else none
  | .tup xs => some (!xs.isEmpty)
  | .lst xs => some (!xs.isEmpty)
  | _ => none
def ofOpt {α : Type} : Option α → M α
  | some a => fun S => .ok a S
  | none => fun _ => .bad
abbrev okP (w : W) : M U := fun S => .ok (.p w) S
/-- a new place -/
def newU (o : MO) : M U := fun S => .ok (.loc S.length) (S ++ [some o])
def bit64 (i : Int) : Bool := decide (i.natAbs ≤ 18446744073709551615)
def putF (f : Str) (w : W) : List (Str × W) → List (Str × W)
  | [] => [(f, w)]
  | (g, x) :: r => if f == g then (g, w) :: r else (g, x) :: putF f w r

def tagW : W → Option String
  | .non => some "NoneType"
  | .bl _ => some "bool"
  | .int _ => some "int"
  | .str _ => some "str"
  | .tup _ => some "tuple"
  | .lst _ => some "list"
  | .dct _ => some "dict"
  | .obj C _ => some C
  | _ => none
def subT (t c : String) : Bool := t == c || (t == "bool" && c == "int")

/-- the pure primitives, by what the values are -/
def addW : W → W → Option W
  | .int a, .int b => some (.int (a + b))
  | .int a, .bl b => some (.int (a + b2i b))
  | .str a, .str b => if a.length + b.length ≤ bigLine then some (.str (a ++ b)) else none
  | .tup a, .tup b => if a.length + b.length ≤ bigLine then some (.tup (a ++ b)) else none
  | .lst a, .lst b => if a.length + b.length ≤ bigLine then some (.lst (a ++ b)) else none
  | _, _ => none
def subW : W → W → Option W
  | .int a, .int b => some (.int (a - b))
  | _, _ => none
def rptL {α : Type} (n : Nat) (xs : List α) : List α := (List.replicate n xs).flatten
def mulW : W → W → Option W
  | .int a, .int b => if bit64 a || bit64 b || (decide (a.natAbs < mulLine) && decide (b.natAbs < mulLine)) then some (.int (a * b)) else none
  | .tup a, .int b => if a.length ≠ 0 ∧ 2 ≤ b ∧ b ≤ 1000 ∧ a.length ≤ 1000 then some (.tup (rptL b.toNat a)) else none
  | .lst a, .int b => if -1000 ≤ b ∧ b ≤ 1000 ∧ a.length ≤ 1000 then some (.lst (rptL b.toNat a)) else none
  | _, _ => none
def isNon : W → Bool
  | .non => true
  | _ => false
/-- divisors up to 10 ^ 60 -/
def divLine : Int := 10 ^ 60
def fdivW : W → W → Option W
  | .int a, .int b => if 0 < b ∧ b < divLine then some (.int (a / b)) else none
  | _, _ => none
def modW : W → W → Option W
  | .int a, .int b => if 0 < b then some (.int (a % b)) else none
  | _, _ => none
def powW : W → W → Option W
  | .int a, .int b => if 0 ≤ b ∧ b ≤ 1000000 ∧ a.natAbs < 2 ^ 64 then some (.int (a ^ b.toNat)) else none
  | _, _ => none
def cmpW (f : Int → Int → Bool) : W → W → Option W
  | .int a, .int b => some (.bl (f a b))
  | _, _ => none
def inW : W → W → Option Bool
  | w, .tup xs => if flatW w && xs.all flatW then some (xs.any fun x => eqW w x) else none
  | w, .lst xs => if flatW w && xs.all flatW then some (xs.any fun x => eqW w x) else if dataW w && dataW (.lst xs) then some (xs.any fun x => eqW x w) else none
  | .str a, .str b => if a.length = 1 then some (decide (a.cps.toList.headD 0 ∈ b.cps.toList)) else none
  | _, _ => none
def ixW : W → W → Option W
  | .tup xs, .int i => (ixAt xs.length i).bind fun k => xs[k]?
  | .lst xs, .int i => (ixAt xs.length i).bind fun k => xs[k]?
  | .str s, .int i => if s.length ≤ bigLine then (ixAt s.length i).bind fun k => (s.cps.toList[k]?).map fun c => .str ⟨#[c]⟩ else none
  | _, _ => none
def intW : W → Option W
  | .int i => some (.int i)
  | .bl b => some (.int (b2i b))
  | .str s => if s.length ≤ 640 then (PySem.intText? s).map .int else none
  | _ => none
def slW (lo hi : Option Int) : W → Option W
  | .tup xs => some (.tup (cutL xs lo hi))
  | .lst xs => some (.lst (cutL xs lo hi))
  | .str s => if s.length ≤ bigLine then some (.str ⟨(cutL s.cps.toList lo hi).toArray⟩) else none
  | _ => none
end Pm
namespace Pm
open PySem

structure Cf where
  call : String → List U → M U
  glob : String → Option W
  wh : Nat

mutual
def toD : W → PyData
  | .bl b => .bool b
  | .int i => .int i
  | .str s => .str s
  | .tup xs => .tuple (toDs xs)
  | .lst xs => .list (toDs xs)
  | _ => .none
def toDs : List W → List PyData
  | [] => []
  | x :: xs => toD x :: toDs xs
end
/-- the text that repr shows of data -/
def reprW (w : W) : Option Str := if (dataW w && (toD w).showable && decide ((toD w).shown.length ≤ bigLine)) = true then some (toD w).shown else none
/-- an own __repr__ or __str__ -/
def ownS (f : String → List U → M U) (C nm : String) (u : U) : M U := M.bind (f (C ++ nm) [u]) fun v => match v with
  | .p (.str s) => okP (.str s)
  | _ => badM
def reprM (f : String → List U → M U) (u : U) : M U := match u with
  | .p (.obj C fs) => ownS f C ".__repr__" (.p (.obj C fs))
  | .p w => (match reprW w with
    | some s => okP (.str s)
    | none => badM)
  | .loc n => fun S => match S[n]? with
    | some (some (.ins C _)) => ownS f C ".__repr__" (.loc n) S
    | some (some o) => (match reprW o.frz with
      | some s => .ok (.p (.str s)) S
      | none => .bad)
    | _ => .bad
def strM (f : String → List U → M U) (u : U) : M U := match u with
  | .p (.obj C fs) => ownS f C ".__str__" (.p (.obj C fs))
  | .p (.str s) => okP (.str s)
  | .p (.int i) => fun S => if i.natAbs < strLine then .ok (.p (.str (toString i))) S else .bad
  | .loc n => fun S => match S[n]? with
    | some (some (.ins C _)) => ownS f C ".__str__" (.loc n) S
    | _ => .bad
  | _ => badM
/-- an f-string's text -/
def fstrW : Str → List (Option Str) → List U → Option Str
  | acc, [], [] => some acc
  | acc, some z :: ps, us => fstrW (acc ++ z) ps us
  | acc, none :: ps, .p (.str s) :: us => fstrW (acc ++ s) ps us
  | acc, none :: ps, .p (.int i) :: us => if i.natAbs < strLine then fstrW (acc ++ (toString i : Str)) ps us else none
  | _, _, _ => none
def rgM (f : Int → Int → M U) : List U → M U
  | [.p (.int n)] => f 0 n
  | [.p (.int a), .p (.int b)] => f a b
  | _ => badM
def rngOk (a b : Int) : Bool := decide (a.natAbs ≤ 4611686018427387903) && decide (b.natAbs ≤ 4611686018427387903) && decide ((b - a).toNat ≤ 1000000)

/-- a value of a built-in kind -/
def bltW : W → Bool
  | .non | .bl _ | .int _ | .str _ | .tup _ | .lst _ | .dct _ => true
  | _ => false
/-- the own __eq__, asked about a value of a built-in kind -/
def eqB1 (f : String → List U → M U) (C : String) (fs : List (Str × W)) (w : W) : M Bool := if bltW w = true then M.bind (f (C ++ ".__eq__") [.p (.obj C fs), .p w]) fun v => (match v with
      | .p (.bl r) => fun S => .ok r S
      | _ => fun _ => .bad) else fun _ => .bad
/-- == of two values -/
def eqM (f : String → List U → M U) (a b : W) : M Bool := if dataW a && dataW b then fun S => .ok (eqW a b) S else match a, b with
  | .obj C fs, .obj D gs => if C = D then M.bind (f (C ++ ".__eq__") [.p (.obj C fs), .p (.obj D gs)]) fun v => (match v with
      | .p (.bl r) => fun S => .ok r S
      | _ => fun _ => .bad) else fun _ => .bad
  | .obj C fs, w => eqB1 f C fs w
  | w, .obj C fs => eqB1 f C fs w
  | _, _ => fun _ => .bad
/-- no own method -/
def noF : String → List U → M U := fun _ _ _ => .bad
/-- an own __eq__ is asked of values, not of places -/
def eqF (f : String → List U → M U) (a b : U) : String → List U → M U := match a, b with
  | .p _, .p _ => f
  | _, _ => noF

def p2 (g : W → W → Option W) : List U → M U
  | [a, b] => M.bind (rdU a) fun x => M.bind (rdU b) fun y => match g x y with
    | some w => okP w
    | none => badM
  | _ => badM
def p1 (g : W → Option W) : List U → M U
  | [a] => M.bind (rdU a) fun x => match g x with
    | some w => okP w
    | none => badM
  | _ => badM
def oB (o : Option Bool) : Option W := o.map .bl
def oI (o : Option Int) : Option W := o.map .int
def rng (lo hi : Int) : List W := (List.range (hi - lo).toNat).map fun (i : Nat) => W.int (lo + (i : Int))
def enumW (ws : List W) : List W := ws.zipIdx.map fun q => W.tup [.int (q.2 : Int), q.1]
def line62 (i : Int) : Bool := decide (i.natAbs ≤ 4611686018427387903)
def joinS (sep : Str) : List Str → Str
  | [] => ⟨#[]⟩
  | [s] => s
  | s :: r => s ++ (sep ++ joinS sep r)
def optI : U → M (Option Int)
  | .p (.int i) => fun S => .ok (some i) S
  | _ => badM
def sizeS (ss : List Str) : Nat := (ss.map fun s => s.length).sum
def eqIx (xs : List W) (w : W) : Option Nat := xs.findIdx? fun x => eqW x w
/-- the store at a place, a list that grows -/
def updL (n : Nat) (g : List W → Option (List W × W)) : M U := fun S => match S[n]? with
  | some (some (.lst ws)) => (match g ws with
    | some (ws', r) => if ws'.length ≤ bigLine then .ok (.p r) (S.set n (some (.lst ws'))) else .bad
    | none => .bad)
  | _ => .bad

def zipL (a b : List W) : List W := a.zipWith (fun x y => W.tup [x, y]) b
def zipW : W → W → Option (List W)
  | .tup a, .tup b => some (zipL a b)
  | .lst a, .lst b => some (zipL a b)
  | _, _ => none
def prE (F : Cf) : Pr → List U → M U
  | .add => p2 addW
  | .sub => p2 subW
  | .mul => p2 mulW
  | .fdiv => p2 fdivW
  | .mod => p2 modW
  | .pow => p2 powW
  | .neg => p1 fun | .int i => some (.int (-i)) | _ => none
  | .eq => fun | [a, b] => M.bind (rdU a) fun x => M.bind (rdU b) fun y => M.bind (eqM (eqF F.call a b) x y) fun r => okP (.bl r)
               | _ => badM
  | .ne => fun | [a, b] => M.bind (rdU a) fun x => M.bind (rdU b) fun y => M.bind (eqM (eqF F.call a b) x y) fun r => okP (.bl (!r))
               | _ => badM
  | .lt => p2 (cmpW fun a b => decide (a < b))
  | .le => p2 (cmpW fun a b => decide (a ≤ b))
  | .gt => p2 (cmpW fun a b => decide (b < a))
  | .ge => p2 (cmpW fun a b => decide (b ≤ a))
  | .in_ => p2 fun x y => oB (inW x y)
  | .notin => p2 fun x y => oB ((inW x y).map (!·))
  | .isn => p1 fun w => some (.bl (isNon w))
  | .notn => p1 fun w => some (.bl (!isNon w))
  | .isb b => p1 fun | .bl c => some (.bl (c == b))
                     | _ => none
  | .tup => fun us => M.bind (frUs us) fun ws => okP (.tup ws)
  | .lst false => fun us => M.bind (frUs us) fun ws => okP (.lst ws)
  | .lst true => fun us => M.bind (frUs us) fun ws => newU (.lst ws)
  | .dct0 => fun | [] => okP (.dct [])
                 | _ => badM
  | .len => p1 fun x => (lenW x).map fun (n : Nat) => W.int (n : Int)
  | .all => p1 fun | .lst xs => (boolsW xs).map fun bs => .bl (bs.all id)
                   | _ => none
  | .any => p1 fun | .lst xs => (boolsW xs).map fun bs => .bl (bs.any id)
                   | _ => none
  | .sum => p1 fun | .lst xs => (intsW xs).map fun is => .int is.sum
                   | _ => none
  | .min2 => p2 fun | .int a, .int b => some (.int (if b < a then b else a))
                    | _, _ => none
  | .max2 => p2 fun | .int a, .int b => some (.int (if b > a then b else a))
                    | _, _ => none
  | .abs => p1 fun | .int a => some (.int (if a < 0 then -a else a))
                   | _ => none
  | .divmod => p2 fun | .int a, .int b => if 0 < b ∧ b < divLine then some (.tup [.int (a / b), .int (a % b)]) else none
                      | _, _ => none
  | .str => fun | [a] => strM F.call a
                | _ => badM
  | .repr => fun | [a] => reprM F.call a
                 | _ => badM
  | .fstr ps => fun us => (match fstrW Str.empty ps us with
    | some s => if s.length ≤ bigLine then okP (.str s) else badM
    | none => badM)
  | .lrange m => rgM fun a b => if rngOk a b = true then (if m = true then newU (.lst (rng a b)) else okP (.lst (rng a b))) else badM
  | .trange => rgM fun a b => if rngOk a b = true then okP (.tup (rng a b)) else badM
  | .int => p1 intW
  | .tuple => p1 fun x => (seqW x).map .tup
  | .list false => p1 fun x => (seqW x).map .lst
  | .list true => fun | [a] => M.bind (rdU a) fun x => (match seqW x with
                        | some ws => newU (.lst ws)
                        | none => badM)
                      | _ => badM
  | .ix => p2 ixW
  | .frz => fun us => (match us with
                   | [u] => M.bind (frU u) fun w => okP w
                   | _ => badM)
  | .rev => p1 fun | .lst xs => some (.lst xs.reverse)
                   | _ => none
  | .sl lo hi => fun us => match lo, hi, us with
    | false, false, [o] => M.bind (rdU o) fun x => (match slW none none x with | some w => okP w | none => badM)
    | true, false, [o, a] => M.bind (rdU o) fun x => M.bind (optI a) fun i => (match slW i none x with | some w => okP w | none => badM)
    | false, true, [o, b] => M.bind (rdU o) fun x => M.bind (optI b) fun j => (match slW none j x with | some w => okP w | none => badM)
    | true, true, [o, a, b] => M.bind (rdU o) fun x => M.bind (optI a) fun i => M.bind (optI b) fun j => (match slW i j x with | some w => okP w | none => badM)
    | _, _, _ => badM
  | .join => p2 fun | .str sep, .lst ws => (strsW ws).bind fun ss => if sizeS ss + ss.length * sep.length ≤ bigLine then some (.str (Txt.join sep ss)) else none
                    | _, _ => none
  | .split => p2 fun | .str a, .str b => if b.length ≠ 0 ∧ a.length ≤ bigLine then some (.lst ((Txt.split a b).map .str)) else none
                     | _, _ => none
  | .find => p2 fun | .str a, .str b => some (.int (Txt.find a b))
                    | _, _ => none
  | .index => p2 fun | .lst ws, w => if (flatW w && ws.all flatW) = true then (eqIx ws w).map fun (k : Nat) => W.int (k : Int) else if (dataW w && dataW (.lst ws)) = true then (eqIx ws w).map fun (k : Nat) => W.int (k : Int) else none
                     | _, _ => none
  | .count => p2 fun | .lst ws, .str z => (strsW ws).map fun ss => W.int ((ss.count z : Nat) : Int)
                     | _, _ => none
  | .append => fun | [.loc n, u] => M.bind (frU u) fun w => updL n fun ws => some (ws ++ [w], .non)
                   | _ => badM
  | .extend => fun | [.loc n, u] => M.bind (rdU u) fun x => (match x with
                     | .lst ys => updL n fun ws => some (ws ++ ys, .non)
                     | _ => badM)
                   | _ => badM
  | .isi ts => p1 fun w => (tagW w).map fun t => .bl (ts.any fun c => subT t c)
  | .range1 => p1 fun | .int n => if line62 n then some (.lst (rng 0 n)) else none
                      | _ => none
  | .range2 => p2 fun | .int m, .int n => if line62 m && line62 n then some (.lst (rng m n)) else none
                      | _, _ => none
  | .enum => fun | [.p x] => (match itemsW x with
                    | some ws => okP (.lst (enumW ws))
                    | none => badM)
                 | _ => badM
  | .zip => fun | [.p x, .p y] => (match zipW x y with
                    | some ws => okP (.lst ws)
                    | none => badM)
                | _ => badM
  | _ => fun _ => badM

/-! ### the small syntax -/
/-- a parameter's default -/
inductive Dfl where
  | non | tup0 | int (i : Int)
  deriving DecidableEq, Inhabited
def Dfl.w : Dfl → W
  | .non => .non
  | .tup0 => .tup []
  | .int i => .int i
inductive Tg where
  | nm (i : Nat)
  | tp (ts : List Tg)
  deriving Inhabited
inductive Ex where
  | var (i : Nat)
  | cst (w : W)
  | glob (x : String)
  | pr (p : Pr) (es : List Ex)
  | and (a b : Ex)
  | or (a b : Ex)
  | not (a : Ex)
  | ite (c a b : Ex)
  | chain (p q : Pr) (a b c : Ex)
  | chain3 (p q r : Pr) (a b c d : Ex)
  | comp (m : Bool) (own : List (Str × Nat)) (tg : Tg) (ip : Option Pr) (its : List Ex) (cond : List Ex) (elt : Ex)
  | call (f : String) (bd : List (Sum Nat Dfl)) (es : List Ex)
  | meth (p : Pr) (o : Ex) (es : List Ex)
  | mcall (C : String) (m : Str) (f : String) (o : Ex) (bd : List (Sum Nat Dfl)) (es : List Ex)
  | new (C : String) (bd : List (Sum Nat Dfl)) (es : List Ex)
  | fld (o : Ex) (f : Str)
  | nev
  deriving Inhabited
inductive Stx where
  | expr (e : Ex)
  | asg (tg : Tg) (e : Ex)
  | par (is : List Nat) (es : List Ex)
  | setix (o i e : Ex)
  | setix2 (o i : Ex) (j : Nat) (e : Ex)
  | setf (o : Ex) (f : Str) (e : Ex)
  | aug (i : Nat) (p : Pr) (e : Ex)
  | ret (e : Ex)
  | retN
  | ifs (c : Ex) (a b : List Stx)
  | for_ (tg : Tg) (ip : Option Pr) (its : List Ex) (b : List Stx)
  | whl (c : Ex) (b : List Stx)
  | brk | cnt | pass
  | raise (C : String) (fs : List Str) (es : List Ex)
  | thru (b : List Stx)
  | nev
  deriving Inhabited

abbrev Lo := List (Option U)
inductive Fl where
  | nx (τ : Lo)
  | rt (u : U)
  | bk (τ : Lo)
  | ct (τ : Lo)
  | ex (C : String) (fs : List (Str × W)) (τ : Lo)

mutual
def bindTg : Tg → W → Lo → Option Lo
  | .nm i, w, τ => some (τ.set i (some (.p w)))
  | .tp ts, .tup ws, τ => bindTgs ts ws τ
  | .tp ts, .lst ws, τ => bindTgs ts ws τ
  | _, _, _ => none
def bindTgs : List Tg → List W → Lo → Option Lo
  | [], [], τ => some τ
  | t :: ts, w :: ws, τ => (bindTg t w τ).bind fun τ1 => bindTgs ts ws τ1
  | _, _, _ => none
end
def wipeL (τ : Lo) : List Nat → Lo
  | [] => τ
  | v :: vs => (wipeL τ vs).set v none
/-- a walked thing: its items; a place is out of reach while it is walked -/
def walkU {α : Type} (u : U) (f : List W → M α) : M α := match u with
  | .p w => (match itemsW w with
    | some ws => f ws
    | none => badM)
  | .loc n => fun S => match S[n]? with
    | some (some (.lst ws)) => (match f ws (S.set n none) with
      | .ok a S' => .ok a (S'.set n (some (.lst ws)))
      | .err C fs S' => .err C fs (S'.set n (some (.lst ws)))
      | .bad => .bad)
    | _ => .bad
/-- what is walked: a value, or a call of range, zip .. -/
def itU (F : Cf) : Option Pr → List U → M U
  | none, [u] => fun S => .ok u S
  | some p, us => prE F p us
  | _, _ => badM
/-- a comprehension's turns -/
def compL (f : W → M (Option W)) : List W → M (List W)
  | [] => fun S => .ok [] S
  | w :: ws => M.bind (f w) fun o => M.bind (compL f ws) fun r => fun S => .ok (match o with | some y => y :: r | none => r) S
def forL (f : Lo → M Fl) (tg : Tg) : List W → Lo → M Fl
  | [], τ => fun S => .ok (.nx τ) S
  | w :: ws, τ => match bindTg tg w τ with
    | none => badM
    | some τ1 => M.bind (f τ1) fun
      | .nx τ2 => forL f tg ws τ2
      | .ct τ2 => forL f tg ws τ2
      | .bk τ2 => fun S => .ok (.nx τ2) S
      | .rt u => fun S => .ok (.rt u) S
      | .ex C fs τ2 => fun S => .ok (.ex C fs τ2) S
def whlL (c : Lo → M Bool) (f : Lo → M Fl) : Nat → Lo → M Fl
  | 0, _ => badM
  | n + 1, τ => M.bind (c τ) fun b => if b = true then M.bind (f τ) fun
      | .nx τ2 => whlL c f n τ2
      | .ct τ2 => whlL c f n τ2
      | .bk τ2 => fun S => .ok (.nx τ2) S
      | .rt u => fun S => .ok (.rt u) S
      | .ex C fs τ2 => fun S => .ok (.ex C fs τ2) S
    else fun S => .ok (.nx τ) S
def truU (u : U) : M Bool := M.bind (rdU u) fun w => ofOpt (truW w)
/-- arguments into the parameters' order, defaults among them -/
def bindA (bd : List (Sum Nat Dfl)) (us : List U) : Option (List U) := match bd with
  | [] => some []
  | .inl i :: r => us[i]?.bind fun u => (bindA r us).map (u :: ·)
  | .inr w :: r => (bindA r us).map (U.p w.w :: ·)
/-- what a method of a built-in kind wants of its object -/
def recvOk : Pr → U → M Unit
  | .append, .loc n => fun S => match S[n]? with
    | some (some (.lst _)) => .ok () S
    | _ => .bad
  | .extend, .loc n => fun S => match S[n]? with
    | some (some (.lst _)) => .ok () S
    | _ => .bad
  | .join, .p (.str _) => fun S => .ok () S
  | .split, .p (.str _) => fun S => .ok () S
  | .find, .p (.str _) => fun S => .ok () S
  | .index, .p (.lst _) => fun S => .ok () S
  | .index, .loc n => fun S => match S[n]? with
    | some (some (.lst _)) => .ok () S
    | _ => .bad
  | .count, .p (.lst _) => fun S => .ok () S
  | _, _ => badM
/-- an instance of the class that has no attribute m of its own -/
def isIns (C : String) (m : Str) : U → M Unit
  | .p (.obj D fs) => fun S => if D = C ∧ fs.lookup m = none then .ok () S else .bad
  | .loc n => fun S => match S[n]? with
    | some (some (.ins D fs)) => if D = C ∧ fs.lookup m = none then .ok () S else .bad
    | _ => .bad
  | _ => badM
/-- a new object: its place, then __init__, then it is frozen -/
def newO (F : Cf) (C : String) (us : List U) : M U := fun S =>
  match F.call (C ++ ".__init__") (.loc S.length :: us) (S ++ [some (.ins C [])]) with
  | .ok (.p .non) S' => (match S'[S.length]? with
    | some (some o) => .ok (.p o.frz) (S'.take S.length)
    | _ => .bad)
  | .ok _ _ => .bad
  | .err D fs S' => .err D fs (S'.take S.length)
  | .bad => .bad
def fldU (f : Str) (u : U) : M U := M.bind (rdU u) fun w => match w with
  | .obj _ fs => (match fs.lookup f with
    | some w => okP w
    | none => badM)
  | _ => badM

mutual
def evE (F : Cf) : Ex → Lo → M U
  | .var i, τ => match τ[i]? with
    | some (some u) => fun S => .ok u S
    | _ => badM
  | .cst w, _ => okP w
  | .glob x, _ => match F.glob x with
    | some w => okP w
    | none => badM
  | .pr p es, τ => M.bind (evEs F es τ) fun us => prE F p us
  | .and a b, τ => M.bind (evE F a τ) fun u => match u with
    | .p (.bl c) => if c = true then evE F b τ else okP (.bl false)
    | _ => badM
  | .or a b, τ => M.bind (evE F a τ) fun u => match u with
    | .p (.bl c) => if c = true then okP (.bl true) else evE F b τ
    | _ => badM
  | .not a, τ => M.bind (evE F a τ) fun u => M.bind (truU u) fun c => okP (.bl (!c))
  | .ite c a b, τ => M.bind (evT F c τ) fun t => if t = true then evE F a τ else evE F b τ
  | .chain p q a b c, τ => M.bind (evE F a τ) fun u => M.bind (evE F b τ) fun v => M.bind (prE F p [u, v]) fun r => match r with
    | .p (.bl t) => if t = true then M.bind (evE F c τ) fun w => prE F q [v, w] else okP (.bl false)
    | _ => badM
  | .chain3 p q p3 a b c d, τ => M.bind (evE F a τ) fun u => M.bind (evE F b τ) fun v => M.bind (prE F p [u, v]) fun r => match r with
    | .p (.bl t) => if t = true then M.bind (evE F c τ) fun w => M.bind (prE F q [v, w]) fun r2 => (match r2 with
      | .p (.bl t2) => if t2 = true then M.bind (evE F d τ) fun z => prE F p3 [w, z] else okP (.bl false)
      | _ => badM) else okP (.bl false)
    | _ => badM
  | .comp m own tg ip its cond elt, τ => M.bind (evEs F its τ) fun us => M.bind (itU F ip us) fun u => M.bind (walkU u fun ws => M.bind (guardM (decide (ws.length ≤ bigLine))) fun _ => compL (fun w =>
      match bindTg tg w (wipeL τ (own.map (·.2))) with
      | none => badM
      | some τ1 => M.bind (evC F cond τ1) fun b => if b = true then M.bind (evE F elt τ1) fun v => M.bind (frU v) fun y => fun S => .ok (some y) S else fun S => .ok none S) ws) fun ws =>
    if m = true then newU (.lst ws) else okP (.lst ws)
  | .call f bd es, τ => M.bind (evEs F es τ) fun us => match bindA bd us with
    | some vs => F.call f vs
    | none => badM
  | .meth p o es, τ => M.bind (evE F o τ) fun u => M.bind (recvOk p u) fun _ => M.bind (evEs F es τ) fun us => prE F p (u :: us)
  | .mcall C m f o bd es, τ => M.bind (evE F o τ) fun u => M.bind (isIns C m u) fun _ => M.bind (evEs F es τ) fun us => match bindA bd (u :: us) with
    | some vs => F.call f vs
    | none => badM
  | .new C bd es, τ => M.bind (evEs F es τ) fun us => match bindA bd us with
    | some vs => newO F C vs
    | none => badM
  | .fld o f, τ => M.bind (evE F o τ) fun u => fldU f u
  | .nev, _ => badM
def evEs (F : Cf) : List Ex → Lo → M (List U)
  | [], _ => fun S => .ok [] S
  | e :: es, τ => M.bind (evE F e τ) fun u => M.bind (evEs F es τ) fun us => fun S => .ok (u :: us) S
/-- a test -/
def evT (F : Cf) : Ex → Lo → M Bool
  | .and a b, τ => M.bind (evT F a τ) fun c => if c = true then evT F b τ else fun S => .ok false S
  | .or a b, τ => M.bind (evT F a τ) fun c => if c = true then fun S => .ok true S else evT F b τ
  | .not a, τ => M.bind (evT F a τ) fun c => fun S => .ok (!c) S
  | .var i, τ => M.bind (match τ[i]? with
    | some (some u) => fun S => .ok u S
    | _ => badM) truU
  | .cst w, _ => M.bind (okP w) truU
  | .pr p es, τ => M.bind (M.bind (evEs F es τ) fun us => prE F p us) truU
  | .chain p q a b c, τ => M.bind (M.bind (evE F a τ) fun u => M.bind (evE F b τ) fun v => M.bind (prE F p [u, v]) fun r => match r with
    | .p (.bl t) => if t = true then M.bind (evE F c τ) fun w => prE F q [v, w] else okP (.bl false)
    | _ => badM) truU
  | .chain3 p q p3 a b c d, τ => M.bind (M.bind (evE F a τ) fun u => M.bind (evE F b τ) fun v => M.bind (prE F p [u, v]) fun r => match r with
    | .p (.bl t) => if t = true then M.bind (evE F c τ) fun w => M.bind (prE F q [v, w]) fun r2 => (match r2 with
      | .p (.bl t2) => if t2 = true then M.bind (evE F d τ) fun z => prE F p3 [w, z] else okP (.bl false)
      | _ => badM) else okP (.bl false)
    | _ => badM) truU
  | .call f bd es, τ => M.bind (M.bind (evEs F es τ) fun us => match bindA bd us with
    | some vs => F.call f vs
    | none => badM) truU
  | .meth p o es, τ => M.bind (M.bind (evE F o τ) fun u => M.bind (recvOk p u) fun _ => M.bind (evEs F es τ) fun us => prE F p (u :: us)) truU
  | .mcall C m f o bd es, τ => M.bind (M.bind (evE F o τ) fun u => M.bind (isIns C m u) fun _ => M.bind (evEs F es τ) fun us => match bindA bd (u :: us) with
    | some vs => F.call f vs
    | none => badM) truU
  | .fld o f, τ => M.bind (M.bind (evE F o τ) fun u => fldU f u) truU
  | _, _ => badM
def evC (F : Cf) : List Ex → Lo → M Bool
  | [], _ => fun S => .ok true S
  | c :: cs, τ => M.bind (evT F c τ) fun b => if b = true then evC F cs τ else fun S => .ok false S
end

/-- an expression within a statement: what it raises leaves by the statement -/
def inS (m : M U) (τ : Lo) (f : U → M Fl) : M Fl := fun S => match m S with
  | .ok u S' => f u S'
  | .err C fs S' => .ok (.ex C fs τ) S'
  | .bad => .bad
def inSb (m : M Bool) (τ : Lo) (f : Bool → M Fl) : M Fl := fun S => match m S with
  | .ok u S' => f u S'
  | .err C fs S' => .ok (.ex C fs τ) S'
  | .bad => .bad
def inSs (m : M (List U)) (τ : Lo) (f : List U → M Fl) : M Fl := fun S => match m S with
  | .ok u S' => f u S'
  | .err C fs S' => .ok (.ex C fs τ) S'
  | .bad => .bad
def setsL : List Nat → List U → Lo → Option Lo
  | [], [], τ => some τ
  | i :: is, u :: us, τ => setsL is us (τ.set i (some u))
  | _, _, _ => none
/-- o[i] = w -/
def setIxM (o i : U) (w : W) : M Unit := match o, i with
  | .loc n, .p (.int i) => fun S => (match S[n]? with
    | some (some (.lst ws)) => (match ixAt ws.length i with
      | some k => .ok () (S.set n (some (.lst (ws.set k w))))
      | none => .bad)
    | _ => .bad)
  | _, _ => badM
def setFM (o : U) (f : Str) (w : W) : M Unit := match o with
  | .loc n => fun S => (match S[n]? with
    | some (some (.ins C fs)) => if fs.length < 100 then .ok () (S.set n (some (.ins C (putF f w fs)))) else .bad
    | _ => .bad)
  | _ => badM
def walkS (u : U) (f : List W → M Fl) : M Fl := match u with
  | .p w => (match itemsW w with
    | some ws => f ws
    | none => badM)
  | .loc n => fun S => match S[n]? with
    | some (some (.lst ws)) => (match f ws (S.set n none) with
      | .ok a S' => .ok a (S'.set n (some (.lst ws)))
      | .err C fs S' => .err C fs (S'.set n (some (.lst ws)))
      | .bad => .bad)
    | _ => .bad
/-- name op= value -/
def augW : Pr → W → W → Option W
  | .add, .int a, .int b => some (.int (a + b))
  | .add, .int a, .bl b => some (.int (a + b2i b))
  | .add, .str a, .str b => if a.length + b.length ≤ bigLine then some (.str (a ++ b)) else none
  | .sub, .int a, .int b => some (.int (a - b))
  | .mul, .int a, .int b => if bit64 a || bit64 b then some (.int (a * b)) else none
  | .fdiv, .int a, .int b => if 0 < b ∧ b < 1073741824 then some (.int (a / b)) else none
  | _, _, _ => none
def augM (p : Pr) (u : U) (v : U) (_F : Cf) : M U := p2 (augW p) [u, v]
def nxt (τ : Lo) : M Fl := fun S => .ok (.nx τ) S
mutual
def evS (F : Cf) : Stx → Lo → M Fl
  | .expr e, τ => inS (evE F e τ) τ fun _ => nxt τ
  | .asg (.nm i) e, τ => inS (evE F e τ) τ fun u => nxt (τ.set i (some u))
  | .asg (.tp ts) e, τ => inS (evE F e τ) τ fun u => M.bind (rdU u) fun w => match bindTg (.tp ts) w τ with
    | some τ1 => nxt τ1
    | none => badM
  | .par is es, τ => inSs (evEs F es τ) τ fun us => match setsL is us τ with
    | some τ1 => nxt τ1
    | none => badM
  | .setix o i e, τ => inS (evE F e τ) τ fun u => inS (evE F o τ) τ fun a => inS (evE F i τ) τ fun j => M.bind (frU u) fun w => M.bind (setIxM a j w) fun _ => nxt τ
  | .setix2 o i j e, τ => inS (evE F e τ) τ fun u => M.bind (rdU u) fun w => match w with
    | .tup [x, y] => inS (evE F o τ) τ fun a => inS (evE F i τ) τ fun k => M.bind (setIxM a k x) fun _ => nxt (τ.set j (some (.p y)))
    | _ => badM
  | .setf o f e, τ => inS (evE F e τ) τ fun u => inS (evE F o τ) τ fun a => M.bind (frU u) fun w => M.bind (setFM a f w) fun _ => nxt τ
  | .aug i p e, τ => match τ[i]? with
    | some (some x) => inS (evE F e τ) τ fun y => inS (augM p x y F) τ fun z => nxt (τ.set i (some z))
    | _ => badM
  | .ret e, τ => inS (evE F e τ) τ fun u => fun S => .ok (.rt u) S
  | .retN, _ => fun S => .ok (.rt (.p .non)) S
  | .ifs c a b, τ => inSb (evT F c τ) τ fun t => if t = true then evB F a τ else evB F b τ
  | .for_ tg ip its b, τ => inS (M.bind (evEs F its τ) fun us => itU F ip us) τ fun u => walkS u fun ws => forL (evB F b) tg ws τ
  | .whl c b, τ => whlL (evT F c) (evB F b) F.wh τ
  | .brk, τ => fun S => .ok (.bk τ) S
  | .cnt, τ => fun S => .ok (.ct τ) S
  | .pass, τ => nxt τ
  | .raise C fs es, τ => inSs (evEs F es τ) τ fun us => M.bind (frUs us) fun ws => fun S => .ok (.ex C (fs.zip ws) τ) S
  | .thru b, τ => evB F b τ
  | .nev, _ => badM
def evB (F : Cf) : List Stx → Lo → M Fl
  | [], τ => nxt τ
  | s :: r, τ => M.bind (evS F s τ) fun
    | .nx τ1 => evB F r τ1
    | fl => fun S => .ok fl S
end

/-! ### functions -/
structure Fn where
  np : Nat
  n : Nat
  keep : Bool := false
  body : List Stx
/-- what a def hands back: its own places go, a place that it made goes along | is frozen -/
def finU (keep : Bool) (n : Nat) (u : U) : M U := fun S => match u with
  | .p w => .ok (.p w) (S.take n)
  | .loc m => if m < n then .ok (.loc m) (S.take n) else (match S[m]? with
    | some (some o) => if keep then .ok (.loc n) (S.take n ++ [some o]) else .ok (.p o.frz) (S.take n)
    | _ => .bad)
def runFn (F : Cf) (d : Fn) (us : List U) : M U := fun S =>
  if us.length = d.np then
    (match evB F d.body (us.map some ++ List.replicate (d.n - d.np) none) S with
    | .ok (.rt u) S' => finU d.keep S.length u S'
    | .ok (.nx _) S' => finU d.keep S.length (.p .non) S'
    | .ok (.ex C fs _) S' => .err C fs (S'.take S.length)
    | _ => .bad)
  else .bad
structure Pg where
  fn : String → Option Fn
  glob : String → Option W
  wh : Nat
def callM (P : Pg) : Nat → String → List U → M U
  | 0, _, _ => badM
  | k + 1, f, us => match P.fn f with
    | some d => runFn ⟨callM P k, P.glob, P.wh⟩ d us
    | none => badM
end Pm
end
section
set_option Elab.async false
set_option linter.all false
/-! Pm2: how small values and the small store stand for the layer's. -/
namespace Pm
open PySem PySem.Spec PyProof.Rows L2

structure Gx where
  K : PySem.W.Frag
  cA : String → Option Addr

def keyOf : W → Option Key
  | .int i => some (.inl i)
  | .str s => some (.inr s)
  | _ => none

section
variable (G : Gx) (Z : Addr → Prop) (H : Hp)
mutual
def Rep : W → V → Prop
  | .non, v => v = .non
  | .bl b, v => v = .bl b
  | .int i, v => v = .int i
  | .str s, v => v = .str s
  | .ty n, v => v = .ty n
  | .fn _, _ => False
  | .tup xs, v => ∃ a vs, v = .ref a ∧ SqT G.K H a vs ∧ Reps xs vs
  | .lst xs, v => ∃ a vs, v = .ref a ∧ Rd H a (.lst vs) ∧ Z a ∧ Reps xs vs
  | .dct kvs, v => ∃ a ks, v = .ref a ∧ H a = some (.dK ks) ∧ Z a ∧ RepD kvs ks
  | .obj C fs, v => ∃ a Ca dx vfs, v = .ref a ∧ G.cA C = some Ca ∧ H a = some (.ins Ca dx vfs) ∧ Z a ∧ RepF fs vfs
def Reps : List W → List V → Prop
  | [], vs => vs = []
  | w :: ws, vs => ∃ v r, vs = v :: r ∧ Rep w v ∧ Reps ws r
def RepF : List (Str × W) → List (Str × V) → Prop
  | [], vs => vs = []
  | (f, w) :: ws, vs => ∃ v r, vs = (f, v) :: r ∧ Rep w v ∧ RepF ws r
def RepD : List (W × W) → List (Key × V) → Prop
  | [], vs => vs = []
  | (k, w) :: ws, vs => ∃ v r key, vs = (key, v) :: r ∧ keyOf k = some key ∧ Rep w v ∧ RepD ws r
end
end

/-- what stays: tuples, and what Z guards -/
structure Stay (G : Gx) (Z Z' : Addr → Prop) (H H' : Hp) : Prop where
  tup : ∀ a xs, SqT G.K H a xs → SqT G.K H' a xs
  oth : ∀ a o, Z a → H a = some o → H' a = some o ∧ Z' a
section
variable {G : Gx} {Z Z' : Addr → Prop} {H H' : Hp}
mutual
theorem Rep.stay (s : Stay G Z Z' H H') : ∀ {w : W} {v : V}, Rep G Z H w v → Rep G Z' H' w v
  | .non, _, h => by simpa [Rep] using h
  | .bl _, _, h => by simpa [Rep] using h
  | .int _, _, h => by simpa [Rep] using h
  | .str _, _, h => by simpa [Rep] using h
  | .ty _, _, h => by simpa [Rep] using h
  | .fn _, _, h => by simp [Rep] at h
  | .tup xs, _, h => by
    simp only [Rep] at h ⊢
    obtain ⟨a, vs, e, q, r⟩ := h
    exact ⟨a, vs, e, s.tup _ _ q, Reps.stay s r⟩
  | .lst xs, _, h => by
    simp only [Rep] at h ⊢
    obtain ⟨a, vs, e, q, z, r⟩ := h
    rcases q with q | ⟨o, q⟩
    · exact ⟨a, vs, e, .inl (s.oth _ _ z q).1, (s.oth _ _ z q).2, Reps.stay s r⟩
    · exact ⟨a, vs, e, .inr ⟨o, (s.oth _ _ z q).1⟩, (s.oth _ _ z q).2, Reps.stay s r⟩
  | .dct kvs, _, h => by
    simp only [Rep] at h ⊢
    obtain ⟨a, ks, e, q, z, r⟩ := h
    exact ⟨a, ks, e, (s.oth _ _ z q).1, (s.oth _ _ z q).2, RepD.stay s r⟩
  | .obj C fs, _, h => by
    simp only [Rep] at h ⊢
    obtain ⟨a, Ca, dx, vfs, e, c, q, z, r⟩ := h
    exact ⟨a, Ca, dx, vfs, e, c, (s.oth _ _ z q).1, (s.oth _ _ z q).2, RepF.stay s r⟩
theorem Reps.stay (s : Stay G Z Z' H H') : ∀ {ws : List W} {vs : List V}, Reps G Z H ws vs → Reps G Z' H' ws vs
  | [], _, h => by simpa [Reps] using h
  | w :: ws, _, h => by
    simp only [Reps] at h ⊢
    obtain ⟨v, r, e, h1, h2⟩ := h
    exact ⟨v, r, e, Rep.stay s h1, Reps.stay s h2⟩
theorem RepF.stay (s : Stay G Z Z' H H') : ∀ {ws : List (Str × W)} {vs : List (Str × V)}, RepF G Z H ws vs → RepF G Z' H' ws vs
  | [], _, h => by simpa [RepF] using h
  | (f, w) :: ws, _, h => by
    simp only [RepF] at h ⊢
    obtain ⟨v, r, e, h1, h2⟩ := h
    exact ⟨v, r, e, Rep.stay s h1, RepF.stay s h2⟩
theorem RepD.stay (s : Stay G Z Z' H H') : ∀ {ws : List (W × W)} {vs : List (Key × V)}, RepD G Z H ws vs → RepD G Z' H' ws vs
  | [], _, h => by simpa [RepD] using h
  | (k, w) :: ws, _, h => by
    simp only [RepD] at h ⊢
    obtain ⟨v, r, key, e, h0, h1, h2⟩ := h
    exact ⟨v, r, key, e, h0, Rep.stay s h1, RepD.stay s h2⟩
end
theorem Reps.length : ∀ {ws : List W} {vs : List V}, Reps G Z H ws vs → vs.length = ws.length
  | [], _, h => by simp only [Reps] at h; subst h; rfl
  | w :: ws, _, h => by
    simp only [Reps] at h
    obtain ⟨v, r, e, h1, h2⟩ := h
    subst e
    simp [Reps.length h2]
theorem Reps.get : ∀ {ws : List W} {vs : List V} {i : Nat} {w : W}, Reps G Z H ws vs → ws[i]? = some w → ∃ v, vs[i]? = some v ∧ Rep G Z H w v
  | [], _, _, _, _, e => by simp at e
  | w :: ws, _, 0, _, h, e => by
    simp only [Reps] at h
    obtain ⟨v, r, e1, h1, h2⟩ := h
    subst e1
    simp at e
    subst e
    exact ⟨v, by simp, h1⟩
  | w :: ws, _, i + 1, _, h, e => by
    simp only [Reps] at h
    obtain ⟨v, r, e1, h1, h2⟩ := h
    subst e1
    simp at e
    obtain ⟨v', e2, h3⟩ := Reps.get h2 e
    exact ⟨v', by simpa using e2, h3⟩
theorem Reps.nil : Reps G Z H [] [] := by simp [Reps]
theorem Reps.cons {w : W} {v : V} {ws : List W} {vs : List V} (h : Rep G Z H w v) (t : Reps G Z H ws vs) : Reps G Z H (w :: ws) (v :: vs) := by
  simp only [Reps]
  exact ⟨v, vs, rfl, h, t⟩
theorem Reps.app : ∀ {ws ws' : List W} {vs vs' : List V}, Reps G Z H ws vs → Reps G Z H ws' vs' → Reps G Z H (ws ++ ws') (vs ++ vs')
  | [], _, _, _, h, h' => by simp only [Reps] at h; subst h; exact h'
  | w :: ws, _, _, _, h, h' => by
    simp only [Reps] at h
    obtain ⟨v, r, e, h1, h2⟩ := h
    subst e
    exact Reps.cons h1 (Reps.app h2 h')
theorem Reps.set : ∀ {ws : List W} {vs : List V} {i : Nat} {w : W} {v : V}, Reps G Z H ws vs → Rep G Z H w v → Reps G Z H (ws.set i w) (vs.set i v)
  | [], _, _, _, _, h, h' => by simp only [Reps] at h; subst h; exact Reps.nil
  | w :: ws, _, 0, _, _, h, h' => by
    simp only [Reps] at h
    obtain ⟨v, r, e, h1, h2⟩ := h
    subst e
    exact Reps.cons h' h2
  | w :: ws, _, i + 1, _, _, h, h' => by
    simp only [Reps] at h
    obtain ⟨v, r, e, h1, h2⟩ := h
    subst e
    exact Reps.cons h1 (Reps.set h2 h')
theorem Reps.take : ∀ {ws : List W} {vs : List V} (n : Nat), Reps G Z H ws vs → Reps G Z H (ws.take n) (vs.take n)
  | _, _, 0, _ => by simpa using Reps.nil
  | [], _, n + 1, h => by simp only [Reps] at h; subst h; exact Reps.nil
  | w :: ws, _, n + 1, h => by
    simp only [Reps] at h
    obtain ⟨v, r, e, h1, h2⟩ := h
    subst e
    exact Reps.cons h1 (Reps.take n h2)
theorem Reps.drop : ∀ {ws : List W} {vs : List V} (n : Nat), Reps G Z H ws vs → Reps G Z H (ws.drop n) (vs.drop n)
  | _, _, 0, h => h
  | [], _, n + 1, h => by simp only [Reps] at h; subst h; exact Reps.nil
  | w :: ws, _, n + 1, h => by
    simp only [Reps] at h
    obtain ⟨v, r, e, h1, h2⟩ := h
    subst e
    exact Reps.drop n h2
theorem RepF.get : ∀ {ws : List (Str × W)} {vs : List (Str × V)} {f : Str} {w : W}, RepF G Z H ws vs → ws.lookup f = some w → ∃ v, vs.lookup f = some v ∧ Rep G Z H w v
  | [], _, _, _, _, e => by simp at e
  | (g, w) :: ws, _, f, w', h, e => by
    simp only [RepF] at h
    obtain ⟨v, r, e1, h1, h2⟩ := h
    subst e1
    by_cases q : f = g
    · subst q
      simp [List.lookup] at e
      subst e
      exact ⟨v, by simp [List.lookup], h1⟩
    · have q' : (f == g) = false := by simpa using q
      simp only [List.lookup, q'] at e ⊢
      exact RepF.get h2 e
theorem RepF.length : ∀ {ws : List (Str × W)} {vs : List (Str × V)}, RepF G Z H ws vs → vs.length = ws.length
  | [], _, h => by simp only [RepF] at h; subst h; rfl
  | (f, w) :: ws, _, h => by
    simp only [RepF] at h
    obtain ⟨v, r, e, h1, h2⟩ := h
    subst e
    simp [RepF.length h2]
theorem RepF.none_of : ∀ {ws : List (Str × W)} {vs : List (Str × V)} {f : Str}, RepF G Z H ws vs → ws.lookup f = none → vs.lookup f = none
  | [], _, _, h, _ => by simp only [RepF] at h; subst h; rfl
  | (g, w) :: ws, _, f, h, e => by
    simp only [RepF] at h
    obtain ⟨v, r, e1, h1, h2⟩ := h
    subst e1
    by_cases q : f = g
    · subst q
      simp [List.lookup] at e
    · have q' : (f == g) = false := by simpa using q
      simp only [List.lookup, q'] at e ⊢
      exact RepF.none_of h2 e
theorem RepF.put : ∀ {ws : List (Str × W)} {vs : List (Str × V)} {f : Str} {w : W} {v : V}, RepF G Z H ws vs → Rep G Z H w v → RepF G Z H (putF f w ws) (L2.putF f v vs)
  | [], _, f, w, v, h, h' => by
    simp only [RepF] at h
    subst h
    simp only [putF, L2.putF, RepF]
    exact ⟨v, [], rfl, h', rfl⟩
  | (g, w) :: ws, _, f, w', v', h, h' => by
    simp only [RepF] at h
    obtain ⟨v, r, e1, h1, h2⟩ := h
    subst e1
    by_cases q : f = g
    · subst q
      simp only [putF, L2.putF, beq_self_eq_true, if_true]
      simp only [RepF]
      exact ⟨v', r, rfl, h', h2⟩
    · have q' : (f == g) = false := by simpa using q
      have q2 : ¬ g = f := fun e => q e.symm
      simp only [putF, L2.putF, q', Bool.false_eq_true, if_false, q2, q]
      simp only [RepF]
      exact ⟨v, _, rfl, h1, RepF.put h2 h'⟩
end

/-! ### the store -/
def Mu (ρ : Nat → Addr) (S : Sto) (a : Addr) : Prop := ∃ n o, S[n]? = some (some o) ∧ ρ n = a
abbrev Zf (B : List Addr) (ρ : Nat → Addr) (S : Sto) (a : Addr) : Prop := ¬ Mu ρ S a ∧ a ∉ B
def RepM (G : Gx) (Z : Addr → Prop) (H : Hp) : MO → Addr → Prop
  | .lst ws, a => ∃ vs, H a = some (.lst vs) ∧ Reps G Z H ws vs
  | .dct kvs, a => ∃ ks, H a = some (.dK ks) ∧ RepD G Z H kvs ks
  | .ins C fs, a => ∃ Ca dx vfs, G.cA C = some Ca ∧ H a = some (.ins Ca dx vfs) ∧ RepF G Z H fs vfs
structure RelS (G : Gx) (B : List Addr) (ρ : Nat → Addr) (S : Sto) (H : Hp) : Prop where
  at_ : ∀ n o, S[n]? = some (some o) → RepM G (Zf B ρ S) H o (ρ n)
  inj : ∀ n m o o', S[n]? = some (some o) → S[m]? = some (some o') → ρ n = ρ m → n = m
  bs : ∀ b ∈ B, ∃ o, H b = some o
  nb : ∀ n o, S[n]? = some (some o) → ρ n ∉ B
structure Stp (ρ : Nat → Addr) (S : Sto) (H : Hp) (ρ' : Nat → Addr) (S' : Sto) (H' : Hp) : Prop where
  len : S.length ≤ S'.length
  loc0 : ∀ n, n < S.length → (∀ o', S'[n]? = some (some o') → ∃ o, S[n]? = some (some o)) ∧ ρ' n = ρ n
  keep : ∀ a o, H a = some o → ¬ Mu ρ S a → H' a = some o ∧ ¬ Mu ρ' S' a
def RepU (G : Gx) (B : List Addr) (ρ : Nat → Addr) (S : Sto) (H : Hp) : U → V → Prop
  | .p w, v => Rep G (Zf B ρ S) H w v
  | .loc n, v => n < S.length ∧ v = .ref (ρ n)
def RepUs (G : Gx) (B : List Addr) (ρ : Nat → Addr) (S : Sto) (H : Hp) : List U → List V → Prop
  | [], vs => vs = []
  | u :: us, vs => ∃ v r, vs = v :: r ∧ RepU G B ρ S H u v ∧ RepUs G B ρ S H us r
structure RelL (G : Gx) (B : List Addr) (ρ : Nat → Addr) (S : Sto) (H : Hp) (τ : Lo) (σ : L2.St) : Prop where
  len : τ.length = σ.length
  at_ : ∀ (i : Nat) (u : U), τ[i]? = some (some u) → ∃ v, σ[i]? = some (some v) ∧ RepU G B ρ S H u v

section
variable {G : Gx} {B : List Addr} {ρ ρ' ρ2 : Nat → Addr} {S S' S2 : Sto} {H H' H2 : Hp}
theorem RelS.mu (R : RelS G B ρ S H) {a : Addr} (m : Mu ρ S a) : (∃ vs, H a = some (.lst vs)) ∨ (∃ ks, H a = some (.dK ks)) ∨ ∃ C dx fs, H a = some (.ins C dx fs) := by
  obtain ⟨n, o, e, rfl⟩ := m
  have := R.at_ n o e
  cases o with
  | lst ws => obtain ⟨vs, q, _⟩ := this; exact .inl ⟨_, q⟩
  | dct ws => obtain ⟨vs, q, _⟩ := this; exact .inr (.inl ⟨_, q⟩)
  | ins C ws => obtain ⟨Ca, dx, vs, _, q, _⟩ := this; exact .inr (.inr ⟨_, _, _, q⟩)
theorem RelS.mu_some (R : RelS G B ρ S H) {a : Addr} (m : Mu ρ S a) : ∃ o, H a = some o := by
  rcases R.mu m with ⟨_, q⟩ | ⟨_, q⟩ | ⟨_, _, _, q⟩ <;> exact ⟨_, q⟩
theorem RelS.tup_free (R : RelS G B ρ S H) {a : Addr} {o : HO} (e : H a = some o) (h : (∃ xs, o = .tup xs) ∨ ∃ b u, o = .frz b u) : ¬ Mu ρ S a := fun m => by
  rcases R.mu m with ⟨_, q⟩ | ⟨_, q⟩ | ⟨_, _, _, q⟩ <;> rw [e] at q <;> cases q <;> rcases h with ⟨_, h⟩ | ⟨_, _, h⟩ <;> cases h
theorem Stp.stay (s : Stp ρ S H ρ' S' H') (R : RelS G B ρ S H) : Stay G (Zf B ρ S) (Zf B ρ' S') H H' where
  tup := fun a xs q => by
    rcases q with (q | ⟨o, q⟩) | q
    · exact .inl (.inl (s.keep a _ q (R.tup_free q (.inl ⟨_, rfl⟩))).1)
    · exact .inl (.inr ⟨o, (s.keep a _ q (R.tup_free q (.inr ⟨_, _, rfl⟩))).1⟩)
    · exact .inr q
  oth := fun a o z e => ⟨(s.keep a o e z.1).1, (s.keep a o e z.1).2, z.2⟩
theorem Stp.loc (s : Stp ρ S H ρ' S' H') (n : Nat) (h : n < S.length) (o' : MO) (e : S'[n]? = some (some o')) : (∃ o, S[n]? = some (some o)) ∧ ρ' n = ρ n := ⟨(s.loc0 n h).1 o' e, (s.loc0 n h).2⟩
theorem Stp.refl : Stp ρ S H ρ S H := ⟨Nat.le_refl _, fun n _ => ⟨fun o' e => ⟨o', e⟩, rfl⟩, fun a o e m => ⟨e, m⟩⟩
theorem Stp.trans (s : Stp ρ S H ρ' S' H') (t : Stp ρ' S' H' ρ2 S2 H2) : Stp ρ S H ρ2 S2 H2 where
  len := Nat.le_trans s.len t.len
  loc0 := fun n hn => ⟨fun o' e => by
    obtain ⟨⟨o1, e1⟩, q1⟩ := t.loc n (Nat.lt_of_lt_of_le hn s.len) o' e
    exact (s.loc n hn o1 e1).1, (t.loc0 n (Nat.lt_of_lt_of_le hn s.len)).2.trans (s.loc0 n hn).2⟩
  keep := fun a o e m => by
    obtain ⟨e1, m1⟩ := s.keep a o e m
    exact t.keep a o e1 m1
theorem RepU.stp {u : U} {v : V} (s : Stp ρ S H ρ' S' H') (R : RelS G B ρ S H) (h : RepU G B ρ S H u v) : RepU G B ρ' S' H' u v := by
  cases u with
  | p w => exact Rep.stay (s.stay R) h
  | loc n =>
    obtain ⟨h1, h2⟩ := h
    exact ⟨Nat.lt_of_lt_of_le h1 s.len, by rw [(s.loc0 n h1).2]; exact h2⟩
theorem RepUs.stp (s : Stp ρ S H ρ' S' H') (R : RelS G B ρ S H) : ∀ {us : List U} {vs : List V}, RepUs G B ρ S H us vs → RepUs G B ρ' S' H' us vs
  | [], _, h => h
  | u :: us, _, h => by
    obtain ⟨v, r, e, h1, h2⟩ := h
    exact ⟨v, r, e, RepU.stp s R h1, RepUs.stp s R h2⟩
theorem RelL.stp {τ : Lo} {σ : L2.St} (s : Stp ρ S H ρ' S' H') (R : RelS G B ρ S H) (L : RelL G B ρ S H τ σ) : RelL G B ρ' S' H' τ σ :=
  ⟨L.len, fun i u e => by
    obtain ⟨v, e1, h⟩ := L.at_ i u e
    exact ⟨v, e1, RepU.stp s R h⟩⟩
theorem RelL.set {τ : Lo} {σ : L2.St} {i : Nat} {u : U} {v : V} (L : RelL G B ρ S H τ σ) (h : RepU G B ρ S H u v) : RelL G B ρ S H (τ.set i (some u)) (σ.set i (some v)) :=
  ⟨by simp [L.len], fun j u' e => by
    by_cases hj : j = i
    · subst hj
      by_cases hl : j < τ.length
      · rw [List.getElem?_set_self hl] at e
        cases e
        exact ⟨v, by rw [List.getElem?_set_self (by rw [← L.len]; exact hl)], h⟩
      · rw [List.getElem?_eq_none (by simp; omega)] at e
        cases e
    · rw [List.getElem?_set_ne (Ne.symm hj)] at e
      obtain ⟨v', e1, h'⟩ := L.at_ j u' e
      exact ⟨v', by rw [List.getElem?_set_ne (Ne.symm hj)]; exact e1, h'⟩⟩
theorem RelL.wipe {τ : Lo} {σ : L2.St} (L : RelL G B ρ S H τ σ) : ∀ vs : List Nat, RelL G B ρ S H (wipeL τ vs) (L2.wipe σ vs)
  | [] => L
  | i :: vs => by
    have I := RelL.wipe L vs
    refine ⟨by simp [wipeL, L2.wipe, I.len], fun j u e => ?_⟩
    simp only [wipeL, L2.wipe] at e ⊢
    by_cases hj : j = i
    · subst hj
      by_cases hl : j < (wipeL τ vs).length
      · rw [List.getElem?_set_self hl] at e; cases e
      · rw [List.getElem?_eq_none (by simp; omega)] at e; cases e
    · rw [List.getElem?_set_ne (Ne.symm hj)] at e
      obtain ⟨v', e1, h'⟩ := I.at_ j u e
      exact ⟨v', by rw [List.getElem?_set_ne (Ne.symm hj)]; exact e1, h'⟩
/-- the abstract heap alone grows: new objects, what was there is kept -/
theorem Stp.grow (R : RelS G B ρ S H) (k : ∀ a o, H a = some o → H' a = some o) : Stp ρ S H ρ S H' := ⟨Nat.le_refl _, fun n _ => ⟨fun o' e => ⟨o', e⟩, rfl⟩, fun a o e m => ⟨k a o e, m⟩⟩
theorem Stay.grow (k : ∀ a o, H a = some o → H' a = some o) {Z : Addr → Prop} : Stay G Z Z H H' where
  tup := fun a xs q => by
    rcases q with (q | ⟨o, q⟩) | q
    · exact .inl (.inl (k _ _ q))
    · exact .inl (.inr ⟨o, k _ _ q⟩)
    · exact .inr q
  oth := fun a o z e => ⟨k _ _ e, z⟩
theorem RepM.stay {Z Z' : Addr → Prop} {o : MO} {a : Addr} (s : Stay G Z Z' H H') (h : RepM G Z H o a) (e : H' a = H a) : RepM G Z' H' o a := by
  cases o with
  | lst ws => obtain ⟨vs, q, r⟩ := h; exact ⟨vs, e.trans q, Reps.stay s r⟩
  | dct ws => obtain ⟨vs, q, r⟩ := h; exact ⟨vs, e.trans q, RepD.stay s r⟩
  | ins C ws => obtain ⟨Ca, dx, vs, c, q, r⟩ := h; exact ⟨Ca, dx, vs, c, e.trans q, RepF.stay s r⟩
theorem RelS.grow (R : RelS G B ρ S H) (k : ∀ a o, H a = some o → H' a = some o) : RelS G B ρ S H' where
  at_ := fun n o e => by
    obtain ⟨ob, q⟩ := R.mu_some ⟨n, o, e, rfl⟩
    exact (R.at_ n o e).stay (Stay.grow k) (by rw [q]; exact k _ _ q)
  inj := R.inj
  bs := fun b hb => by obtain ⟨o, q⟩ := R.bs b hb; exact ⟨o, k _ _ q⟩
  nb := R.nb
theorem grow_upd {p : Addr} {o : HO} (n : H p = none) : ∀ a u, H a = some u → upd H p o a = some u := fun a u e => by rw [upd_ne (ne_of_none e n)]; exact e
theorem RelS.fresh (R : RelS G B ρ S H) {p : Addr} (n : H p = none) : Zf B ρ S p := ⟨fun m => (by obtain ⟨o, q⟩ := R.mu_some m; rw [n] at q; cases q), fun m => (by obtain ⟨o, q⟩ := R.bs p m; rw [n] at q; cases q)⟩
/-- a place dies -/
theorem getElem?_set_none {n m : Nat} {o : MO} (e : (S.set n none)[m]? = some (some o)) : m ≠ n ∧ S[m]? = some (some o) := by
  by_cases h : m = n
  · subst h
    by_cases hl : m < S.length
    · rw [List.getElem?_set_self hl] at e; cases e
    · rw [List.getElem?_eq_none (by simp; omega)] at e; cases e
  · rw [List.getElem?_set_ne (Ne.symm h)] at e
    exact ⟨h, e⟩
theorem mu_kill {n : Nat} {a : Addr} (m : Mu ρ (S.set n none) a) : Mu ρ S a := by
  obtain ⟨k, o, e, q⟩ := m
  exact ⟨k, o, (getElem?_set_none e).2, q⟩
theorem Stp.kill (R : RelS G B ρ S H) (n : Nat) : Stp ρ S H ρ (S.set n none) H := ⟨by simp, fun k hk => ⟨fun o' e => ⟨o', (getElem?_set_none e).2⟩, rfl⟩, fun a o e m => ⟨e, fun m' => m (mu_kill m')⟩⟩
theorem RelS.kill (R : RelS G B ρ S H) (n : Nat) : RelS G B ρ (S.set n none) H where
  at_ := fun k o e => (R.at_ k o (getElem?_set_none e).2).stay ((Stp.kill R n).stay R) rfl
  inj := fun k m o o' e e' => R.inj k m o o' (getElem?_set_none e).2 (getElem?_set_none e').2
  bs := R.bs
  nb := fun k o e => R.nb k o (getElem?_set_none e).2
theorem RelS.kill_mu (R : RelS G B ρ S H) {n : Nat} {o : MO} (e : S[n]? = some (some o)) : Zf B ρ (S.set n none) (ρ n) := ⟨fun ⟨m, o', e', q⟩ => by
  obtain ⟨h1, h2⟩ := getElem?_set_none e'
  exact h1 (R.inj m n o' o h2 e q), R.nb n o e⟩
/-- what stood at a place, frozen -/
theorem RepM.frz {Z : Addr → Prop} {o : MO} {a : Addr} (h : RepM G Z H o a) (z : Z a) : Rep G Z H o.frz (.ref a) := by
  cases o with
  | lst ws => obtain ⟨vs, q, r⟩ := h; simp only [MO.frz, Rep]; exact ⟨a, vs, rfl, .inl q, z, r⟩
  | dct ws => obtain ⟨vs, q, r⟩ := h; simp only [MO.frz, Rep]; exact ⟨a, vs, rfl, q, z, r⟩
  | ins C ws => obtain ⟨Ca, dx, vs, c, q, r⟩ := h; simp only [MO.frz, Rep]; exact ⟨a, Ca, dx, vs, rfl, c, q, z, r⟩
theorem RelS.freeze (R : RelS G B ρ S H) {n : Nat} {o : MO} (e : S[n]? = some (some o)) : Rep G (Zf B ρ (S.set n none)) H o.frz (.ref (ρ n)) :=
  RepM.frz ((R.at_ n o e).stay ((Stp.kill R n).stay R) rfl) (R.kill_mu e)
end
end Pm
end
section
set_option Elab.async false
set_option linter.all false
/-! Pm3: the small evaluator's readings; values read. -/
namespace Pm
open PySem PySem.Spec PyProof.Rows L2

abbrev RpT (α β : Type) := List Addr → (Nat → Addr) → Sto → Hp → α → β → Prop
def FinG {α β : Type} (G : Gx) (B : List Addr) (Rp : RpT α β) (Q : β → Hp → Prop) (ρ : Nat → Addr) (S : Sto) (H : Hp) : Res α → Prop
  | .ok a S' => ∀ b ρ' H', Stp ρ S H ρ' S' H' → RelS G B ρ' S' H' → Rp B ρ' S' H' a b → Q b H'
  | _ => False
def rdG {α β : Type} (G : Gx) (Rp : RpT α β) (m : Lo → M α) : L2.St → Hp → (β → Hp → Prop) → Prop := fun σ H Q =>
  ∃ B ρ S τ, RelS G B ρ S H ∧ RelL G B ρ S H τ σ ∧ FinG G B Rp Q ρ S H (m τ S)
abbrev RpU (G : Gx) : RpT U V := fun B ρ S H u v => RepU G B ρ S H u v
abbrev RpUs (G : Gx) : RpT (List U) (List V) := fun B ρ S H u v => RepUs G B ρ S H u v
abbrev RpB : RpT Bool Bool := fun _ _ _ _ a b => a = b
abbrev rdE (G : Gx) (m : Lo → M U) : TE := rdG G (RpU G) m
abbrev rdT (G : Gx) (m : Lo → M Bool) : TT := rdG G RpB m
abbrev rdA (G : Gx) (m : Lo → M (List U)) : TA := rdG G (RpUs G) m

section
variable {G : Gx} {α β α' β' : Type} {B : List Addr} {Rp : RpT α β} {Rp' : RpT α' β'} {Q : β → Hp → Prop} {Q' : β' → Hp → Prop} {ρ ρ' : Nat → Addr} {S S' : Sto} {H H' : Hp} {m : M α} {f : α → M α'}
theorem FinG.later {r : Res α} (h : FinG G B Rp Q ρ S H r) (s : Stp ρ S H ρ' S' H') : FinG G B Rp Q ρ' S' H' r := by
  cases r with
  | ok a S2 => exact fun b ρ2 H2 t R P => h b ρ2 H2 (s.trans t) R P
  | err _ _ _ => exact h
  | bad => exact h
theorem FinG.imp {r : Res α} {Q2 : β → Hp → Prop} (h : FinG G B Rp Q ρ S H r) (k : ∀ b H', Q b H' → Q2 b H') : FinG G B Rp Q2 ρ S H r := by
  cases r with
  | ok a S2 => exact fun b ρ2 H2 t R P => k _ _ (h b ρ2 H2 t R P)
  | err _ _ _ => exact h
  | bad => exact h
theorem FinG.bind (h : FinG G B Rp' Q' ρ S H (M.bind m f S)) : FinG G B Rp (fun b H1 => ∃ ρ1 S1 a, m S = .ok a S1 ∧ RelS G B ρ1 S1 H1 ∧ Stp ρ S H ρ1 S1 H1 ∧ Rp B ρ1 S1 H1 a b ∧ FinG G B Rp' Q' ρ1 S1 H1 (f a S1)) ρ S H (m S) := by
  unfold M.bind at h
  cases e : m S with
  | ok a S1 =>
    rw [e] at h
    exact fun b ρ1 H1 t R P => ⟨ρ1, S1, a, rfl, R, t, P, h.later t⟩
  | err _ _ _ => rw [e] at h; exact h.elim
  | bad => rw [e] at h; exact h.elim
theorem FinG.ok {a : α} (h : FinG G B Rp Q ρ S H (.ok a S)) {b : β} (R : RelS G B ρ S H) (r : Rp B ρ S H a b) : Q b H := h b ρ H .refl R r
/-- a new object at p -/
theorem FinG.ok_new {a : α} {p : Addr} {o : HO} {b : β} (h : FinG G B Rp Q ρ S H (.ok a S)) (R : RelS G B ρ S H) (n : H p = none) (r : Rp B ρ S (upd H p o) a b) : Q b (upd H p o) :=
  h b ρ _ (Stp.grow R (grow_upd n)) (R.grow (grow_upd n)) r
end
theorem bind_assoc' {α β γ : Type} (m : M α) (f : α → M β) (g : β → M γ) : M.bind (M.bind m f) g = M.bind m fun a => M.bind (f a) g := by
  funext S
  unfold M.bind
  cases m S <;> rfl
theorem pure_bind' {α β : Type} (a : α) (f : α → M β) : M.bind (fun S => Res.ok a S) f = f a := rfl

/-! ### the rules' readings weakened -/
theorem PE.imp {X : Cx} {e : Expr} {t t' : TE} (h : PE X e t) (k : ∀ σ H Q, t' σ H Q → t σ H Q) : PE X e t' := ⟨fun pins s σ H Q I q => h.run pins s σ H Q I (k _ _ _ q)⟩
theorem PT.imp {X : Cx} {e : Expr} {t t' : TT} (h : PT X e t) (k : ∀ σ H Q, t' σ H Q → t σ H Q) : PT X e t' := ⟨fun pins s σ H Q I q => h.run pins s σ H Q I (k _ _ _ q)⟩
theorem PW.imp {X : Cx} {e : Expr} {t t' : TT} (h : PW X e t) (k : ∀ σ H Q, t' σ H Q → t σ H Q) : PW X e t' := ⟨fun wh pins s σ H Q I q => h.run wh pins s σ H Q I (k _ _ _ q)⟩
theorem PA.imp {X : Cx} {e : List Expr} {t t' : TA} (h : PA X e t) (k : ∀ σ H Q, t' σ H Q → t σ H Q) : PA X e t' := ⟨fun p pins s σ H Q I q => h.run p pins s σ H Q I (k _ _ _ q)⟩
theorem PK.imp {X : Cx} {e : List Keyword} {t t' : TA} (h : PK X e t) (k : ∀ σ H Q, t' σ H Q → t σ H Q) : PK X e t' := ⟨fun p pins s σ H Q I q => h.run p pins s σ H Q I (k _ _ _ q)⟩
theorem PS.imp {X : Cx} {e : Stmt} {t t' : TS} (h : PS X e t) (k : ∀ D σ H, t' D σ H → t D σ H) : PS X e t' := ⟨fun pins s σ H D I q => h.run pins s σ H D I (k _ _ _ q)⟩
theorem PSs.imp {X : Cx} {e : List Stmt} {t t' : TS} (h : PSs X e t) (k : ∀ D σ H, t' D σ H → t D σ H) : PSs X e t' := ⟨fun pins s σ H D I q => h.run pins s σ H D I (k _ _ _ q)⟩

/-! ### a value as it is read: its outer object may change later -/
def Rep0 (G : Gx) (Z : Addr → Prop) (H : Hp) : W → V → Prop
  | .tup xs, v => ∃ a vs, v = .ref a ∧ SqT G.K H a vs ∧ Reps G Z H xs vs
  | .lst xs, v => ∃ a vs, v = .ref a ∧ Rd H a (.lst vs) ∧ Reps G Z H xs vs
  | .dct kvs, v => ∃ a ks, v = .ref a ∧ H a = some (.dK ks) ∧ RepD G Z H kvs ks
  | .obj C fs, v => ∃ a Ca dx vfs, v = .ref a ∧ G.cA C = some Ca ∧ H a = some (.ins Ca dx vfs) ∧ RepF G Z H fs vfs
  | w, v => Rep G Z H w v
section
variable {G : Gx} {Z : Addr → Prop} {B : List Addr} {ρ ρ' : Nat → Addr} {S S' : Sto} {H H' : Hp}
theorem Rep.zero {w : W} {v : V} (h : Rep G Z H w v) : Rep0 G Z H w v := by
  cases w <;> simp only [Rep, Rep0] at h ⊢
  all_goals first | exact h | skip
  · obtain ⟨a, vs, e, q, z, r⟩ := h; exact ⟨a, vs, e, q, r⟩
  · obtain ⟨a, vs, e, q, z, r⟩ := h; exact ⟨a, vs, e, q, r⟩
  · obtain ⟨a, Ca, dx, vs, e, c, q, z, r⟩ := h; exact ⟨a, Ca, dx, vs, e, c, q, r⟩
theorem RepM.zero {o : MO} {a : Addr} (h : RepM G Z H o a) : Rep0 G Z H o.frz (.ref a) := by
  cases o with
  | lst ws => obtain ⟨vs, q, r⟩ := h; simp only [MO.frz, Rep0]; exact ⟨a, vs, rfl, .inl q, r⟩
  | dct ws => obtain ⟨vs, q, r⟩ := h; simp only [MO.frz, Rep0]; exact ⟨a, vs, rfl, q, r⟩
  | ins C ws => obtain ⟨Ca, dx, vs, c, q, r⟩ := h; simp only [MO.frz, Rep0]; exact ⟨a, Ca, dx, vs, rfl, c, q, r⟩
theorem rdU_ok (R : RelS G B ρ S H) {u : U} {v : V} {w : W} {S' : Sto} (h : RepU G B ρ S H u v) (e : rdU u S = .ok w S') : S' = S ∧ Rep0 G (Zf B ρ S) H w v := by
  cases u with
  | p w' =>
    cases e
    exact ⟨rfl, Rep.zero h⟩
  | loc n =>
    obtain ⟨h1, h2⟩ := h
    simp only [rdU] at e
    cases q : S[n]? with
    | none => rw [q] at e; cases e
    | some o =>
      rw [q] at e
      cases o with
      | none => cases e
      | some o =>
        cases e
        rw [h2]
        exact ⟨rfl, (R.at_ n o q).zero⟩
theorem frU_ok (R : RelS G B ρ S H) {u : U} {v : V} {w : W} {S' : Sto} (h : RepU G B ρ S H u v) (e : frU u S = .ok w S') : Stp ρ S H ρ S' H ∧ RelS G B ρ S' H ∧ Rep G (Zf B ρ S') H w v := by
  cases u with
  | p w' =>
    cases e
    exact ⟨.refl, R, h⟩
  | loc n =>
    obtain ⟨h1, h2⟩ := h
    simp only [frU] at e
    cases q : S[n]? with
    | none => rw [q] at e; cases e
    | some o =>
      rw [q] at e
      cases o with
      | none => cases e
      | some o =>
        cases e
        rw [h2]
        exact ⟨Stp.kill R n, R.kill n, R.freeze q⟩
theorem frUs_ok : ∀ {us : List U} {vs : List V} {ws : List W} {S S' : Sto}, RelS G B ρ S H → RepUs G B ρ S H us vs → frUs us S = .ok ws S' → Stp ρ S H ρ S' H ∧ RelS G B ρ S' H ∧ Reps G (Zf B ρ S') H ws vs
  | [], _, _, S, S', R, h, e => by
    cases e
    simp only [RepUs] at h
    subst h
    exact ⟨.refl, R, Reps.nil⟩
  | u :: us, _, _, S, S', R, h, e => by
    obtain ⟨v, r, e1, h1, h2⟩ := h
    subst e1
    simp only [frUs, M.bind] at e
    cases q : frU u S with
    | ok w S1 =>
      rw [q] at e
      obtain ⟨s1, R1, p1⟩ := frU_ok R h1 q
      cases q2 : frUs us S1 with
      | ok ws S2 =>
        simp only [q2] at e
        cases e
        obtain ⟨s2, R2, p2⟩ := frUs_ok R1 (RepUs.stp s1 R h2) q2
        exact ⟨s1.trans s2, R2, Reps.cons (Rep.stay (s2.stay R1) p1) p2⟩
      | err _ _ _ => simp only [q2] at e; cases e
      | bad => simp only [q2] at e; cases e
    | err _ _ _ => rw [q] at e; cases e
    | bad => rw [q] at e; cases e
theorem Reps.eq1 {w : W} {vs : List V} (h : Reps G Z H [w] vs) : ∃ v, vs = [v] ∧ Rep G Z H w v := by
  simp only [Reps] at h
  obtain ⟨v, r, e, h1, rfl⟩ := h
  exact ⟨v, e, h1⟩
theorem RepUs.eq0 {vs : List V} (h : RepUs G B ρ S H [] vs) : vs = [] := h
theorem RepUs.eq1 {u : U} {vs : List V} (h : RepUs G B ρ S H [u] vs) : ∃ v, vs = [v] ∧ RepU G B ρ S H u v := by
  obtain ⟨v, r, e, h1, rfl⟩ := h
  exact ⟨v, e, h1⟩
theorem RepUs.eq2 {u u' : U} {vs : List V} (h : RepUs G B ρ S H [u, u'] vs) : ∃ v v', vs = [v, v'] ∧ RepU G B ρ S H u v ∧ RepU G B ρ S H u' v' := by
  obtain ⟨v, r, e, h1, v', r', rfl, h2, rfl⟩ := h
  exact ⟨v, v', e, h1, h2⟩
theorem RepUs.length : ∀ {us : List U} {vs : List V}, RepUs G B ρ S H us vs → vs.length = us.length
  | [], _, h => by simp only [RepUs] at h; subst h; rfl
  | u :: us, _, h => by
    obtain ⟨v, r, e, h1, h2⟩ := h
    subst e
    simp [RepUs.length h2]
theorem RepUs.get : ∀ {us : List U} {vs : List V} {i : Nat} {u : U}, RepUs G B ρ S H us vs → us[i]? = some u → ∃ v, vs[i]? = some v ∧ RepU G B ρ S H u v
  | [], _, _, _, _, e => by simp at e
  | w :: ws, _, 0, _, h, e => by
    obtain ⟨v, r, e1, h1, h2⟩ := h
    subst e1
    simp at e
    subst e
    exact ⟨v, by simp, h1⟩
  | w :: ws, _, i + 1, _, h, e => by
    obtain ⟨v, r, e1, h1, h2⟩ := h
    subst e1
    simp at e
    obtain ⟨v', e2, h3⟩ := RepUs.get h2 e
    exact ⟨v', by simpa using e2, h3⟩
/-- flat values are what they stand for -/
theorem big_line : bigLine ≤ sizeLine := by rw [sizeLine_eq]; decide
end

/-! ### op rules over U -/
def Op2 (G : Gx) (r : R2) (g : U → U → M U) : Prop := ∀ (B : List Addr) (ρ : Nat → Addr) (S : Sto) (H : Hp) (u v : U) (x y : V) (Q : VK), RelS G B ρ S H → RepU G B ρ S H u x → RepU G B ρ S H v y →
  FinG G B (RpU G) Q ρ S H (g u v S) → r x y H Q
def Op1 (G : Gx) (r : V → Hp → VK → Prop) (g : U → M U) : Prop := ∀ (B : List Addr) (ρ : Nat → Addr) (S : Sto) (H : Hp) (u : U) (x : V) (Q : VK), RelS G B ρ S H → RepU G B ρ S H u x →
  FinG G B (RpU G) Q ρ S H (g u S) → r x H Q
/-- a call's rule over the arguments -/
def OpN (G : Gx) (r : List V → Hp → VK → Prop) (g : List U → M U) : Prop := ∀ (B : List Addr) (ρ : Nat → Addr) (S : Sto) (H : Hp) (us : List U) (xs : List V) (Q : VK), RelS G B ρ S H → RepUs G B ρ S H us xs →
  FinG G B (RpU G) Q ρ S H (g us S) → r xs H Q
section
variable {G : Gx}
theorem rd_op {r : R2} {g : U → U → M U} {ma mb : Lo → M U} (h : Op2 G r g) : ∀ σ H Q, rdE G (fun τ => M.bind (ma τ) fun u => M.bind (mb τ) fun v => g u v) σ H Q → tOp r (rdE G ma) (rdE G mb) σ H Q := by
  rintro σ H Q ⟨B, ρ, S, τ, R, L, q⟩
  refine ⟨B, ρ, S, τ, R, L, (FinG.bind (Rp := RpU G) q).imp ?_⟩
  rintro x H1 ⟨ρ1, S1, u, e1, R1, s1, r1, q1⟩
  refine ⟨B, ρ1, S1, τ, R1, L.stp s1 R, (FinG.bind (Rp := RpU G) q1).imp ?_⟩
  rintro y H2 ⟨ρ2, S2, v, e2, R2, s2, r2, q2⟩
  exact h B ρ2 S2 H2 u v x y Q R2 (RepU.stp s2 R1 r1) r2 q2
theorem rd_un {r : V → Hp → VK → Prop} {g : U → M U} {ma : Lo → M U} (h : Op1 G r g) : ∀ σ H Q, rdE G (fun τ => M.bind (ma τ) g) σ H Q → tUn r (rdE G ma) σ H Q := by
  rintro σ H Q ⟨B, ρ, S, τ, R, L, q⟩
  refine ⟨B, ρ, S, τ, R, L, (FinG.bind (Rp := RpU G) q).imp ?_⟩
  rintro x H1 ⟨ρ1, S1, u, e1, R1, s1, r1, q1⟩
  exact h B ρ1 S1 H1 u x Q R1 r1 q1
theorem rd_cb {r : List V → Hp → VK → Prop} {g : List U → M U} {ma : Lo → M (List U)} (h : OpN G r g) : ∀ σ H Q, rdE G (fun τ => M.bind (ma τ) g) σ H Q → tCB r (rdA G ma) σ H Q := by
  rintro σ H Q ⟨B, ρ, S, τ, R, L, q⟩
  refine ⟨B, ρ, S, τ, R, L, (FinG.bind (Rp := RpUs G) q).imp ?_⟩
  rintro x H1 ⟨ρ1, S1, u, e1, R1, s1, r1, q1⟩
  exact h B ρ1 S1 H1 u x Q R1 r1 q1
theorem rd_cons {m1 : Lo → M U} {m2 : Lo → M (List U)} : ∀ σ H Q, rdA G (fun τ => M.bind (m1 τ) fun u => M.bind (m2 τ) fun us => fun S => .ok (u :: us) S) σ H Q → tCons (rdE G m1) (rdA G m2) σ H Q := by
  rintro σ H Q ⟨B, ρ, S, τ, R, L, q⟩
  refine ⟨B, ρ, S, τ, R, L, (FinG.bind (Rp := RpU G) q).imp ?_⟩
  rintro x H1 ⟨ρ1, S1, u, e1, R1, s1, r1, q1⟩
  refine ⟨B, ρ1, S1, τ, R1, L.stp s1 R, (FinG.bind (Rp := RpUs G) q1).imp ?_⟩
  rintro y H2 ⟨ρ2, S2, v, e2, R2, s2, r2, q2⟩
  exact q2 _ ρ2 H2 .refl R2 ⟨x, y, rfl, RepU.stp s2 R1 r1, r2⟩
theorem rd_nil : ∀ σ H Q, rdA G (fun _ => fun S => .ok [] S) σ H Q → tNil σ H Q := by
  rintro σ H Q ⟨B, ρ, S, τ, R, L, q⟩
  exact q [] ρ H .refl R rfl
theorem rd_tB {m : Lo → M Bool} {m0 : Lo → M U} (e : ∀ τ, m τ = M.bind (m0 τ) truU) : True := trivial
/-- pure primitives of two values -/
theorem op2_p2 {r : R2} {g : W → W → Option W} (h : ∀ (B : List Addr) (ρ : Nat → Addr) (S : Sto) (H : Hp) (a b w : W) (x y : V) (Q : VK), RelS G B ρ S H → Rep0 G (Zf B ρ S) H a x → Rep0 G (Zf B ρ S) H b y → g a b = some w →
    FinG G B (RpU G) Q ρ S H (.ok (.p w) S) → r x y H Q) : Op2 G r fun u v => p2 g [u, v] := by
  intro B ρ S H u v x y Q R r1 r2 q
  unfold p2 M.bind at q
  cases e1 : rdU u S with
  | ok a S1 =>
    obtain ⟨rfl, p1⟩ := rdU_ok R r1 e1
    simp only [e1] at q
    cases e2 : rdU v S1 with
    | ok b S2 =>
      obtain ⟨rfl, p2'⟩ := rdU_ok R r2 e2
      simp only [e2] at q
      cases e3 : g a b with
      | some w => simp only [e3] at q; exact h B ρ S2 H a b w x y Q R p1 p2' e3 q
      | none => simp only [e3] at q; exact q.elim
    | err _ _ _ => simp only [e2] at q; exact q.elim
    | bad => simp only [e2] at q; exact q.elim
  | err _ _ _ => simp only [e1] at q; exact q.elim
  | bad => simp only [e1] at q; exact q.elim
theorem op1_p1 {r : V → Hp → VK → Prop} {g : W → Option W} (h : ∀ (B : List Addr) (ρ : Nat → Addr) (S : Sto) (H : Hp) (a w : W) (x : V) (Q : VK), RelS G B ρ S H → Rep0 G (Zf B ρ S) H a x → g a = some w →
    FinG G B (RpU G) Q ρ S H (.ok (.p w) S) → r x H Q) : Op1 G r fun u => p1 g [u] := by
  intro B ρ S H u x Q R r1 q
  unfold p1 M.bind at q
  cases e1 : rdU u S with
  | ok a S1 =>
    obtain ⟨rfl, p1⟩ := rdU_ok R r1 e1
    simp only [e1] at q
    cases e3 : g a with
    | some w => simp only [e3] at q; exact h B ρ S1 H a w x Q R p1 e3 q
    | none => simp only [e3] at q; exact q.elim
  | err _ _ _ => simp only [e1] at q; exact q.elim
  | bad => simp only [e1] at q; exact q.elim
end
end Pm
end
section
set_option Elab.async false
set_option linter.all false
set_option maxHeartbeats 1000000
/-! Pm4: the primitives' rules over small values. -/
namespace Pm
open PySem PySem.Spec PyProof.Rows L2

/-- a context in which the small evaluator is read -/
structure XOk (G : Gx) (X : Cx) (N : List Str) (sc : Scope) : Prop where
  kk : X.K = G.K
  nn : X.N = N
  ss : ∀ x k, sc.names.lookup x = some k → X.env.scope.names.lookup x = some k ∨ (k = .free ∧ X.env.scope.names.lookup x = some .cell)
  nd : N.Nodup
  calm : X.calm = true
  un : X.A.units + 128 < cLine
  gd : X.A.guards = some []
  fnok : ∀ x, sc.names.lookup x = some .cell → X.fn x = true

section
variable {X : Cx} {pins : List (Addr × Obj)} {σ : L2.St} {H : Hp} {s : Shared}
theorem Inv.rdl (I : L2.Inv X pins σ H s) {a : Addr} {xs : List V} (h : Rd H a (.lst xs)) : xs.length ≤ sizeLine ∧ ∃ (its : List Value) (n : Nat), Vals xs its ∧ xs.length = its.length ∧ s.heap.get? a = some { cls := .type "list", data := .seq its.toArray n } := by
  obtain ⟨z, its, n, r, e⟩ := (show ObjOk X.prog X.w H s.heap a (.lst xs) from h.ok I.hok)
  exact ⟨z, its, n, r, r.length, e⟩
/-- list + list, either may be a frozen one -/
def rCatR : R2 := fun x y H Q => ∃ l b xs zs, x = .ref l ∧ y = .ref b ∧ Rd H l (.lst xs) ∧ Rd H b (.lst zs) ∧ xs.length + zs.length ≤ sizeLine ∧ ∀ p, H p = none → Q (.ref p) (upd H p (.lst (xs ++ zs)))
theorem op_catR : OpR X (binaryOp .Add) rCatR := by
  intro pins s σ H x y v u Q I rx ry h
  obtain ⟨l, b, xs, zs, rfl, rfl, hH, hB, hz, q⟩ := h
  cases rx
  cases ry
  obtain ⟨z, its, n, r, hl, e⟩ := Inv.rdl I hH
  obtain ⟨z2, its2, n2, r2, hl2, e2⟩ := Inv.rdl I hB
  refine PySem.P.add_list e e2 ?_ (by rw [List.size_toArray, List.size_toArray]; omega)
  have ea : its.toArray ++ its2.toArray = (its ++ its2).toArray := by simp
  rw [ea]
  exact ⟨.ref _, _, I.lnew (t' := s.toks) (r.append r2) (by rw [List.length_append]; omega), rfl, q _ I.fresh⟩
/-- list * int, it may be a frozen one -/
def rRepR : R2 := fun x y H Q => ∃ l k xs, x = .ref l ∧ y = .int k ∧ Rd H l (.lst xs) ∧ -(2 ^ 63) ≤ k ∧ k < 2 ^ 63 ∧ xs.length * k.toNat ≤ sizeLine ∧
  ∀ p, H p = none → Q (.ref p) (upd H p (.lst (List.replicate k.toNat xs).flatten))
theorem op_repR : OpR X (binaryOp .Mult) rRepR := by
  intro pins s σ H x y v u Q I rx ry h
  obtain ⟨l, k, xs, rfl, rfl, hH, h1, h2, hz, q⟩ := h
  cases rx
  obtain ⟨t, rfl⟩ := ry
  obtain ⟨z, its, n, r, hl, e⟩ := Inv.rdl I hH
  have hlen : its.toArray.size * k.toNat ≤ sizeLine := by rw [List.size_toArray, ← hl]; exact hz
  have hcap : ¬ its.toArray.size * k.toNat > (2 ^ 63 - 1) / 8 := by
    have : (sizeLine : Nat) ≤ (2 ^ 63 - 1) / 8 := by decide
    omega
  have hfit : ¬ (!Builtin.List.listFitsIndex k) = true := by
    rw [fitsIndex_both h1 h2]
    exact Bool.false_ne_true
  have hlong : ¬ Builtin.List.listTooLong (its.toArray.size * k.toNat) = true := by
    rw [notLongL hlen]
    exact Bool.false_ne_true
  have hnew : List.foldl (fun x1 x2 => x1 ++ x2) #[] (List.replicate (if its.toArray.isEmpty = true then 0 else k.toNat) its.toArray) = (List.replicate k.toNat its).flatten.toArray := by
    have f0 : ∀ m : Nat, List.foldl (fun x1 x2 => x1 ++ x2) #[] (List.replicate m its.toArray) = (List.replicate m its).flatten.toArray := fun m => by
      have := foldl_rep its m []
      rw [List.nil_append] at this
      exact this
    rw [f0]
    cases its with
    | nil => simp
    | cons a r' => rw [if_neg (by simp)]
  refine wpAny_binaryOp_repeat_ref (T := "list") (U := "int") (by decide) ⟨_, e, rfl⟩ (fun s' => typeIs_int s' k t) noFill_list_mul F.fills_int_mul F.slot_int_rmul repeat_list F.slot_int_index.lookup
    (call_meets F.slot_int_rmul (typeIs_int s k t) F.entry_int_rmul (F.args_int_rmul_2 _ _) (int___rmul___int_list k t l its.toArray n)
      ⟨e, rfl, ⟨_, e, rfl⟩, call_meets F.slot_list_mul ⟨_, e, rfl⟩ F.entry_list_mul (F.args_list_mul_2 _ _) (AutoListH.list___mul___list_int_3 l its.toArray n k t hfit hcap hlong) ⟨e, ?_⟩⟩)
  rw [hnew]
  exact ⟨.ref _, _, I.lnew (t' := s.toks) (r.rep k.toNat) (by rw [PyProof.Rows.lm_len_rep_flat, Nat.mul_comm]; exact hz), rfl, q _ I.fresh⟩
end

section
variable {G : Gx} {X : Cx} {N : List Str} {sc : Scope}
/-- an operator's rule, whatever its reading -/
def Bin (G : Gx) (X : Cx) (f : Value → Value → Sem Value) (g : U → U → M U) : Prop := ∃ r : R2, OpR X f r ∧ Op2 G r g
theorem rep0_int {Z : Addr → Prop} {H : Hp} {i : Int} {v : V} (h : Rep0 G Z H (.int i) v) : v = .int i := by simpa [Rep0, Rep] using h
theorem rep0_bl {Z : Addr → Prop} {H : Hp} {i : Bool} {v : V} (h : Rep0 G Z H (.bl i) v) : v = .bl i := by simpa [Rep0, Rep] using h
theorem rep0_str {Z : Addr → Prop} {H : Hp} {i : Str} {v : V} (h : Rep0 G Z H (.str i) v) : v = .str i := by simpa [Rep0, Rep] using h
theorem rep0_tup {Z : Addr → Prop} {H : Hp} {xs : List W} {v : V} (h : Rep0 G Z H (.tup xs) v) : ∃ a vs, v = .ref a ∧ SqT G.K H a vs ∧ Reps G Z H xs vs := by simpa [Rep0] using h
theorem rep0_lst {Z : Addr → Prop} {H : Hp} {xs : List W} {v : V} (h : Rep0 G Z H (.lst xs) v) : ∃ a vs, v = .ref a ∧ Rd H a (.lst vs) ∧ Reps G Z H xs vs := by simpa [Rep0] using h
theorem repT {Z : Addr → Prop} {H : Hp} {xs : List W} {vs : List V} {a : Addr} (h : SqT G.K H a vs) (r : Reps G Z H xs vs) : Rep G Z H (.tup xs) (.ref a) := by simp only [Rep]; exact ⟨a, vs, rfl, h, r⟩
theorem repL {Z : Addr → Prop} {H : Hp} {xs : List W} {vs : List V} {a : Addr} (h : Rd H a (.lst vs)) (z : Z a) (r : Reps G Z H xs vs) : Rep G Z H (.lst xs) (.ref a) := by simp only [Rep]; exact ⟨a, vs, rfl, h, z, r⟩
theorem repI {Z : Addr → Prop} {H : Hp} (i : Int) : Rep G Z H (.int i) (.int i) := by simp [Rep]
theorem repB {Z : Addr → Prop} {H : Hp} (i : Bool) : Rep G Z H (.bl i) (.bl i) := by simp [Rep]
theorem repS {Z : Addr → Prop} {H : Hp} (i : Str) : Rep G Z H (.str i) (.str i) := by simp [Rep]
theorem repN {Z : Addr → Prop} {H : Hp} : Rep G Z H .non .non := by simp [Rep]
theorem FinG.okU {B : List Addr} {ρ : Nat → Addr} {S : Sto} {H : Hp} {Q : VK} {w : W} {b : V} (h : FinG G B (RpU G) Q ρ S H (.ok (.p w) S)) (R : RelS G B ρ S H) (r : Rep G (Zf B ρ S) H w b) : Q b H := h b ρ H .refl R r
/-- a new tuple, a new list that is known -/
theorem fin_tup {B : List Addr} {ρ : Nat → Addr} {S : Sto} {H : Hp} {Q : VK} {xs : List W} {vs : List V} {p : Addr} (q : FinG G B (RpU G) Q ρ S H (.ok (.p (.tup xs)) S)) (R : RelS G B ρ S H) (r : Reps G (Zf B ρ S) H xs vs) (n : H p = none) : Q (.ref p) (upd H p (.tup vs)) :=
  q.ok_new R n (repT (.inl (.inl upd_same)) (Reps.stay (Stay.grow (grow_upd n)) r))
theorem fin_lst {B : List Addr} {ρ : Nat → Addr} {S : Sto} {H : Hp} {Q : VK} {xs : List W} {vs : List V} {p : Addr} (q : FinG G B (RpU G) Q ρ S H (.ok (.p (.lst xs)) S)) (R : RelS G B ρ S H) (r : Reps G (Zf B ρ S) H xs vs) (n : H p = none) : Q (.ref p) (upd H p (.lst vs)) :=
  q.ok_new R n (repL (.inl upd_same) (R.fresh n) (Reps.stay (Stay.grow (grow_upd n)) r))
theorem Stp.new {B : List Addr} {ρ : Nat → Addr} {S : Sto} {H : Hp} (R : RelS G B ρ S H) {p : Addr} {o : MO} {ho : HO} (n : H p = none) : Stp ρ S H (fun k => if k = S.length then p else ρ k) (S ++ [some o]) (upd H p ho) where
  len := by simp
  loc0 := fun k hk => ⟨fun o' e => by
    rw [List.getElem?_append_left hk] at e
    exact ⟨o', e⟩, if_neg (by omega)⟩
  keep := fun a u e m => by
    refine ⟨grow_upd n a u e, ?_⟩
    rintro ⟨k, o', e', q⟩
    dsimp only at q
    by_cases hk : k < S.length
    · rw [List.getElem?_append_left hk] at e'
      rw [if_neg (by omega)] at q
      exact m ⟨k, o', e', q⟩
    · by_cases hk2 : k = S.length
      · rw [if_pos hk2] at q
        rw [← q, n] at e
        cases e
      · rw [List.getElem?_eq_none (by simp; omega)] at e'
        cases e'
theorem RelS.new {B : List Addr} {ρ : Nat → Addr} {S : Sto} {H : Hp} (R : RelS G B ρ S H) {p : Addr} {o : MO} {ho : HO} (n : H p = none) (h : RepM G (Zf B (fun k => if k = S.length then p else ρ k) (S ++ [some o])) (upd H p ho) o p) :
    RelS G B (fun k => if k = S.length then p else ρ k) (S ++ [some o]) (upd H p ho) where
  at_ := fun k o' e => by
    by_cases hk : k < S.length
    · rw [List.getElem?_append_left hk] at e
      rw [if_neg (by omega)]
      obtain ⟨ob, q⟩ := R.mu_some ⟨k, o', e, rfl⟩
      exact (R.at_ k o' e).stay ((Stp.new R n).stay R) (upd_ne (ne_of_none q n))
    · by_cases hk2 : k = S.length
      · subst hk2
        rw [if_pos rfl]
        have e2 : o' = o := by simpa using e.symm
        subst e2
        exact h
      · rw [List.getElem?_eq_none (by simp; omega)] at e
        cases e
  inj := fun k m o1 o2 e1 e2 q => by
    have low : ∀ {k o'}, (S ++ [some o])[k]? = some (some o') → k ≠ S.length → S[k]? = some (some o') := fun {k o'} e hk => by
      by_cases hl : k < S.length
      · rwa [List.getElem?_append_left hl] at e
      · rw [List.getElem?_eq_none (by simp; omega)] at e; cases e
    by_cases h1 : k = S.length <;> by_cases h2 : m = S.length
    · rw [h1, h2]
    · rw [if_pos h1, if_neg h2] at q
      obtain ⟨ob, z⟩ := R.mu_some ⟨m, _, low e2 h2, rfl⟩
      rw [← q, n] at z; cases z
    · rw [if_neg h1, if_pos h2] at q
      obtain ⟨ob, z⟩ := R.mu_some ⟨k, _, low e1 h1, rfl⟩
      rw [q, n] at z; cases z
    · rw [if_neg h1, if_neg h2] at q
      exact R.inj k m _ _ (low e1 h1) (low e2 h2) q
  bs := fun b hb => by obtain ⟨u, q⟩ := R.bs b hb; exact ⟨u, grow_upd n _ _ q⟩
  nb := fun k o' e hb => by
    by_cases hk : k < S.length
    · rw [List.getElem?_append_left hk] at e
      rw [if_neg (by omega)] at hb
      exact R.nb k o' e hb
    · by_cases hk2 : k = S.length
      · rw [if_pos hk2] at hb
        obtain ⟨u, q⟩ := R.bs p hb
        rw [n] at q; cases q
      · rw [List.getElem?_eq_none (by simp; omega)] at e
        cases e
/-- a new place, a list -/
theorem fin_newL {B : List Addr} {ρ : Nat → Addr} {S : Sto} {H : Hp} {Q : VK} {xs : List W} {vs : List V} {p : Addr} (q : FinG G B (RpU G) Q ρ S H (newU (.lst xs) S)) (R : RelS G B ρ S H) (r : Reps G (Zf B ρ S) H xs vs) (n : H p = none) : Q (.ref p) (upd H p (.lst vs)) :=
  q (.ref p) (fun k => if k = S.length then p else ρ k) _ (Stp.new R n) (R.new n ⟨vs, upd_same, Reps.stay ((Stp.new R n).stay R) r⟩)
    ⟨by simp, by simp⟩

theorem bin_add (x0 : XOk G X N sc) : Bin G X (binaryOp .Add) (fun u v => p2 addW [u, v]) := by
  refine ⟨_, op_add.or (op_add_ib.or (op_add_str.or (op_catA.or op_catR))), op2_p2 fun B ρ S H a b w x y Q R r1 r2 e q => ?_⟩
  unfold addW at e
  split at e
  · cases e; rw [rep0_int r1, rep0_int r2]; exact .inl ⟨_, _, rfl, rfl, q.okU R (repI _)⟩
  · cases e; rw [rep0_int r1, rep0_bl r2]; exact .inr (.inl ⟨_, _, rfl, rfl, q.okU R (repI _)⟩)
  · split at e <;> cases e
    rename_i hl
    rw [rep0_str r1, rep0_str r2]; exact .inr (.inr (.inl ⟨_, _, rfl, rfl, Nat.le_trans hl big_line, q.okU R (repS _)⟩))
  · split at e <;> cases e
    rename_i la lb hl
    obtain ⟨a1, vs1, rfl, h1, q1⟩ := rep0_tup r1
    obtain ⟨a2, vs2, rfl, h2, q2⟩ := rep0_tup r2
    refine .inr (.inr (.inr (.inl ⟨a1, a2, vs1, vs2, rfl, rfl, x0.kk ▸ h1, x0.kk ▸ h2, by rw [q1.length, q2.length]; exact Nat.le_trans hl big_line, fun e => ?_, fun _ e => ?_, fun _ _ p n => fin_tup q R (q1.app q2) n⟩)))
    · subst e
      have := q1.length
      have e' : la = [] := List.eq_nil_of_length_eq_zero (by simpa using this.symm)
      subst e'
      exact q.okU R (repT h2 q2)
    · subst e
      have := q2.length
      have e' : lb = [] := List.eq_nil_of_length_eq_zero (by simpa using this.symm)
      subst e'
      refine q.okU R (repT h1 ?_)
      simpa using q1
  · split at e <;> cases e
    rename_i hl
    obtain ⟨a1, vs1, rfl, h1, q1⟩ := rep0_lst r1
    obtain ⟨a2, vs2, rfl, h2, q2⟩ := rep0_lst r2
    exact .inr (.inr (.inr (.inr ⟨a1, a2, vs1, vs2, rfl, rfl, h1, h2, by rw [q1.length, q2.length]; exact Nat.le_trans hl big_line, fun p n => fin_lst q R (q1.app q2) n⟩)))
  · cases e
theorem bin_sub (x0 : XOk G X N sc) : Bin G X (binaryOp .Sub) (fun u v => p2 subW [u, v]) := by
  refine ⟨_, op_sub, op2_p2 fun B ρ S H a b w x y Q R r1 r2 e q => ?_⟩
  unfold subW at e
  split at e
  · cases e; rw [rep0_int r1, rep0_int r2]; exact ⟨_, _, rfl, rfl, q.okU R (repI _)⟩
  · cases e
theorem bit64_ok {i : Int} (h : bit64 i = true) : -(2 ^ 64) < i ∧ i < 2 ^ 64 := by
  unfold bit64 at h
  simp only [Bool.and_eq_true, decide_eq_true_eq] at h
  omega
theorem reps_rpt {Z : Addr → Prop} {H : Hp} {xs : List W} {vs : List V} (r : Reps G Z H xs vs) : ∀ n, Reps G Z H (rptL n xs) (List.replicate n vs).flatten
  | 0 => by simpa [rptL] using Reps.nil
  | n + 1 => by
    have := r.app (reps_rpt r n)
    simpa [rptL, List.replicate_succ] using this
theorem bin_mul (x0 : XOk G X N sc) : Bin G X (binaryOp .Mult) (fun u v => p2 mulW [u, v]) := by
  refine ⟨_, op_mul.or (op_mulW.or (op_repT.or op_repR)), op2_p2 fun B ρ S H a b w x y Q R r1 r2 e q => ?_⟩
  unfold mulW at e
  split at e
  · rename_i i j
    split at e <;> cases e
    rename_i hc
    rw [rep0_int r1, rep0_int r2]
    simp only [Bool.or_eq_true, Bool.and_eq_true, decide_eq_true_eq] at hc
    rcases hc with (hc | hc) | ⟨h1, h2⟩
    · exact .inl ⟨_, _, rfl, rfl, .inl (bit64_ok hc), q.okU R (repI _)⟩
    · exact .inl ⟨_, _, rfl, rfl, .inr (bit64_ok hc), q.okU R (repI _)⟩
    · exact .inr (.inl ⟨_, _, rfl, rfl, wide_mul (a := 4000) (b := 4000) h1 h2 (by omega) (by omega) (by omega), q.okU R (repI _)⟩)
  · rename_i la j
    split at e <;> cases e
    rename_i hc
    obtain ⟨h0, h1, h2, h3⟩ := hc
    obtain ⟨p, vs, rfl, h, t⟩ := rep0_tup r1
    rw [rep0_int r2]
    refine .inr (.inr (.inl ⟨p, _, vs, rfl, rfl, x0.kk ▸ h, fun z => ?_, h1, h2, by rw [t.length]; exact h3, fun l n => fin_tup q R (reps_rpt t _) n⟩))
    have := t.length
    rw [z] at this
    exact h0 this.symm
  · rename_i la j
    split at e <;> cases e
    rename_i hc
    obtain ⟨h0, h1, h2⟩ := hc
    obtain ⟨p, vs, rfl, h, t⟩ := rep0_lst r1
    rw [rep0_int r2]
    refine .inr (.inr (.inr ⟨p, _, vs, rfl, rfl, h, by omega, by omega, ?_, fun l n => fin_lst q R (reps_rpt t _) n⟩))
    rw [t.length]
    exact Nat.le_trans (Nat.mul_le_mul h2 (show j.toNat ≤ 1000 by omega)) big_line
  · cases e
theorem div_ok {j : Int} (h0 : 0 < j) (h : j < divLine) : j.natAbs.log2 < 9000 := by
  have h2 : j.natAbs < 10 ^ 60 := by
    have : (divLine : Int) = ((10 ^ 60 : Nat) : Int) := by decide +kernel
    rw [this] at h
    have := Int.toNat_lt (n := 10 ^ 60) (Int.le_of_lt h0) |>.mpr h
    omega
  exact Nat.lt_of_lt_of_le (PySem.Flt.log2_lt_of (k := 200) (by omega) (Nat.lt_trans h2 (by decide +kernel))) (by omega)
theorem bin_fdiv (x0 : XOk G X N sc) : Bin G X (binaryOp .FloorDiv) (fun u v => p2 fdivW [u, v]) := by
  refine ⟨_, op_fdivW, op2_p2 fun B ρ S H a b w x y Q R r1 r2 e q => ?_⟩
  unfold fdivW at e
  split at e
  · split at e <;> cases e
    rename_i hc
    rw [rep0_int r1, rep0_int r2]; exact ⟨_, _, rfl, rfl, ⟨hc.1, div_ok hc.1 hc.2⟩, q.okU R (repI _)⟩
  · cases e
theorem bin_mod (x0 : XOk G X N sc) : Bin G X (binaryOp .Mod) (fun u v => p2 modW [u, v]) := by
  refine ⟨_, op_mod, op2_p2 fun B ρ S H a b w x y Q R r1 r2 e q => ?_⟩
  unfold modW at e
  split at e
  · split at e <;> cases e
    rename_i hc
    rw [rep0_int r1, rep0_int r2]; exact ⟨_, _, rfl, rfl, hc, q.okU R (repI _)⟩
  · cases e
theorem bin_pow (x0 : XOk G X N sc) : Bin G X (binaryOp .Pow) (fun u v => p2 powW [u, v]) := by
  refine ⟨_, op_pow, op2_p2 fun B ρ S H a b w x y Q R r1 r2 e q => ?_⟩
  unfold powW at e
  split at e
  · split at e <;> cases e
    rename_i hc
    rw [rep0_int r1, rep0_int r2]; exact ⟨_, _, rfl, rfl, hc, q.okU R (repI _)⟩
  · cases e
theorem bin_cmp {op : CmpOp} {f : Int → Int → Bool} (h : OpR X (compareOp op) (rI0 fun i j => .bl (f i j))) : Bin G X (compareOp op) (fun u v => p2 (cmpW f) [u, v]) := by
  refine ⟨_, h, op2_p2 fun B ρ S H a b w x y Q R r1 r2 e q => ?_⟩
  unfold cmpW at e
  split at e
  · cases e; rw [rep0_int r1, rep0_int r2]; exact ⟨_, _, rfl, rfl, q.okU R (repB _)⟩
  · cases e
end
end Pm
end
section
set_option Elab.async false
set_option linter.all false
set_option maxHeartbeats 1000000
/-! Pm5: further primitives. -/
namespace Pm
open PySem PySem.Spec PyProof.Rows L2

/-! ### data -/
section
variable {G : Gx} {Z : Addr → Prop} {H : Hp}
theorem dp_of : ∀ (n : Nat) {w : W} {v : V}, dataN n w = true → Rep0 G Z H w v → Dp G.K H v (toD w)
  | _, .non, _, _, h => by simp only [Rep0, Rep] at h; subst h; simp only [toD]; exact .non
  | _, .bl _, _, _, h => by simp only [Rep0, Rep] at h; subst h; simp only [toD]; exact .bl _
  | _, .int _, _, _, h => by simp only [Rep0, Rep] at h; subst h; simp only [toD]; exact .int _
  | _, .str _, _, _, h => by simp only [Rep0, Rep] at h; subst h; simp only [toD]; exact .str _
  | 0, .tup _, _, d, _ => by simp [dataN] at d
  | 0, .lst _, _, d, _ => by simp [dataN] at d
  | n + 1, .tup xs, _, d, h => by
    simp only [Rep0] at h
    obtain ⟨a, vs, rfl, q, r⟩ := h
    simp only [toD]
    refine .tup q ?_
    have d' : ∀ x ∈ xs, dataN n x = true := by simpa [dataN] using d
    clear d q
    induction xs generalizing vs with
    | nil => simp only [Reps] at r; subst r; simp only [toDs]; exact .nil
    | cons x xs ih =>
      simp only [Reps] at r
      obtain ⟨v, r', rfl, h1, h2⟩ := r
      simp only [toDs]
      exact .cons (dp_of n (d' x (by simp)) h1.zero) (ih _ h2 fun y hy => d' y (by simp [hy]))
  | n + 1, .lst xs, _, d, h => by
    simp only [Rep0] at h
    obtain ⟨a, vs, rfl, q, r⟩ := h
    simp only [toD]
    refine .lst (.inl q) ?_
    have d' : ∀ x ∈ xs, dataN n x = true := by simpa [dataN] using d
    clear d q
    induction xs generalizing vs with
    | nil => simp only [Reps] at r; subst r; simp only [toDs]; exact .nil
    | cons x xs ih =>
      simp only [Reps] at r
      obtain ⟨v, r', rfl, h1, h2⟩ := r
      simp only [toDs]
      exact .cons (dp_of n (d' x (by simp)) h1.zero) (ih _ h2 fun y hy => d' y (by simp [hy]))
  | n, .dct _, _, d, _ => by cases n <;> simp [dataN] at d
  | n, .obj _ _, _, d, _ => by cases n <;> simp [dataN] at d
  | n, .fn _, _, d, _ => by cases n <;> simp [dataN] at d
  | n, .ty _, _, d, _ => by cases n <;> simp [dataN] at d
theorem lay_of : ∀ (n : Nat) {w : W}, dataN n w = true → (toD w).canLay0 = true ∧ (toD w).depth ≤ n
  | _, .non, _ => by simp [toD, PyData.canLay0, PyData.depth]
  | _, .bl _, _ => by simp [toD, PyData.canLay0, PyData.depth]
  | _, .int _, _ => by simp [toD, PyData.canLay0, PyData.depth]
  | n, .str s, d => by
    have d' : s.cps.all (· < 0x110000) = true := by cases n <;> simpa [dataN] using d
    simp only [toD, PyData.canLay0, PyData.depth, Nat.zero_le, and_true]
    exact d'
  | 0, .tup _, d => by simp [dataN] at d
  | 0, .lst _, d => by simp [dataN] at d
  | n + 1, .tup xs, d => by
    have d' : ∀ x ∈ xs, dataN n x = true := by simpa [dataN] using d
    have : PyData.canLayAll0 (toDs xs) = true ∧ PyData.depthAll (toDs xs) ≤ n := by
      clear d
      induction xs with
      | nil => simp [toDs, PyData.canLayAll0, PyData.depthAll]
      | cons x xs ih =>
        obtain ⟨a, b⟩ := lay_of n (d' x (by simp))
        obtain ⟨c, e⟩ := ih fun y hy => d' y (by simp [hy])
        simp only [toDs, PyData.canLayAll0, PyData.depthAll, a, c, Bool.and_self, true_and]
        omega
    simp only [toD, PyData.canLay0, PyData.depth]
    exact ⟨this.1, by omega⟩
  | n + 1, .lst xs, d => by
    have d' : ∀ x ∈ xs, dataN n x = true := by simpa [dataN] using d
    have : PyData.canLayAll0 (toDs xs) = true ∧ PyData.depthAll (toDs xs) ≤ n := by
      clear d
      induction xs with
      | nil => simp [toDs, PyData.canLayAll0, PyData.depthAll]
      | cons x xs ih =>
        obtain ⟨a, b⟩ := lay_of n (d' x (by simp))
        obtain ⟨c, e⟩ := ih fun y hy => d' y (by simp [hy])
        simp only [toDs, PyData.canLayAll0, PyData.depthAll, a, c, Bool.and_self, true_and]
        omega
    simp only [toD, PyData.canLay0, PyData.depth]
    exact ⟨this.1, by omega⟩
  | n, .dct _, d => by cases n <;> simp [dataN] at d
  | n, .obj _ _, d => by cases n <;> simp [dataN] at d
  | n, .fn _, d => by cases n <;> simp [dataN] at d
  | n, .ty _, d => by cases n <;> simp [dataN] at d
theorem noDict_of : ∀ (n : Nat) {w : W}, dataN n w = true → (toD w).hasDict = false
  | _, .non, _ => by simp [toD, PyData.hasDict]
  | _, .bl _, _ => by simp [toD, PyData.hasDict]
  | _, .int _, _ => by simp [toD, PyData.hasDict]
  | _, .str _, _ => by simp [toD, PyData.hasDict]
  | 0, .tup _, d => by simp [dataN] at d
  | 0, .lst _, d => by simp [dataN] at d
  | n + 1, .tup xs, d => by
    have d' : ∀ x ∈ xs, dataN n x = true := by simpa [dataN] using d
    have : PyData.hasDictAll (toDs xs) = false := by
      clear d
      induction xs with
      | nil => simp [toDs, PyData.hasDictAll]
      | cons x xs ih => simp only [toDs, PyData.hasDictAll, noDict_of n (d' x (by simp)), ih fun y hy => d' y (by simp [hy]), Bool.or_self]
    simpa only [toD, PyData.hasDict] using this
  | n + 1, .lst xs, d => by
    have d' : ∀ x ∈ xs, dataN n x = true := by simpa [dataN] using d
    have : PyData.hasDictAll (toDs xs) = false := by
      clear d
      induction xs with
      | nil => simp [toDs, PyData.hasDictAll]
      | cons x xs ih => simp only [toDs, PyData.hasDictAll, noDict_of n (d' x (by simp)), ih fun y hy => d' y (by simp [hy]), Bool.or_self]
    simpa only [toD, PyData.hasDict] using this
  | n, .dct _, d => by cases n <;> simp [dataN] at d
  | n, .obj _ _, d => by cases n <;> simp [dataN] at d
  | n, .fn _, d => by cases n <;> simp [dataN] at d
  | n, .ty _, d => by cases n <;> simp [dataN] at d
theorem shaped_of {w : W} (d : dataW w = true) : SeqAt.shaped (toD w) = true := by
  obtain ⟨a, b⟩ := lay_of 60 d
  unfold SeqAt.shaped
  rw [a, decide_eq_true (by omega)]
  rfl
theorem eqv_of : ∀ (n : Nat) {a b : W}, dataN n a = true → dataN n b = true → PyData.eqv (toD a) (toD b) = eqW a b := by
  intro n
  induction n with
  | zero =>
    intro a b da db
    cases a <;> simp [dataN] at da <;> cases b <;> simp [dataN] at db <;> simp [toD, PyData.eqv, eqW]
  | succ n ih =>
    have all : ∀ xs ys : List W, xs.all (dataN n) = true → ys.all (dataN n) = true → PyData.eqvAll (toDs xs) (toDs ys) = eqWs xs ys := by
      intro xs
      induction xs with
      | nil => intro ys _ _; cases ys <;> simp [toDs, PyData.eqvAll, eqWs]
      | cons x xs ih2 =>
        intro ys h1 h2
        cases ys with
        | nil => simp [toDs, PyData.eqvAll, eqWs]
        | cons y ys =>
          simp only [List.all_cons, Bool.and_eq_true] at h1 h2
          simp only [toDs, PyData.eqvAll, eqWs]
          rw [ih h1.1 h2.1, ih2 ys h1.2 h2.2]
    intro a b da db
    cases a <;> simp only [dataN, Bool.false_eq_true] at da <;> cases b <;> simp only [dataN, Bool.false_eq_true] at db <;> simp only [toD, PyData.eqv, eqW]
    · exact all _ _ da db
    · exact all _ _ da db
end

section
variable {G : Gx} {X : Cx} {N : List Str} {sc : Scope}
theorem eqM_bad {a b : W} {S : Sto} (h : ¬(dataW a && dataW b) = true) : eqM noF a b S = .bad := by
  unfold eqM
  rw [if_neg h]
  split
  · split <;> rfl
  · unfold eqB1; split <;> rfl
  · unfold eqB1; split <;> rfl
  · rfl
theorem op2_eq : Op2 G (rEqD G.K) fun u v => M.bind (rdU u) fun x => M.bind (rdU v) fun y => M.bind (eqM noF x y) fun r => okP (.bl r) := by
  intro B ρ S H u v x y Q R r1 r2 q
  unfold M.bind at q
  cases e1 : rdU u S with
  | ok a S1 =>
    obtain ⟨rfl, p1⟩ := rdU_ok R r1 e1
    simp only [e1] at q
    cases e2 : rdU v S1 with
    | ok b S2 =>
      obtain ⟨rfl, p2'⟩ := rdU_ok R r2 e2
      simp only [e2] at q
      by_cases hd : (dataW a && dataW b) = true
      · unfold eqM at q
        rw [if_pos hd] at q
        obtain ⟨d1, d2⟩ := Bool.and_eq_true_iff.mp hd
        refine ⟨toD a, toD b, dp_of 60 d1 p1, dp_of 60 d2 p2', shaped_of d1, shaped_of d2, ?_⟩
        rw [eqv_of 60 d1 d2]
        exact q.okU R (repB _)
      · rw [eqM_bad hd] at q
        exact q.elim
    | err _ _ _ => simp only [e2] at q; exact q.elim
    | bad => simp only [e2] at q; exact q.elim
  | err _ _ _ => simp only [e1] at q; exact q.elim
  | bad => simp only [e1] at q; exact q.elim
theorem op2_ne : Op2 G (rNeD G.K) fun u v => M.bind (rdU u) fun x => M.bind (rdU v) fun y => M.bind (eqM noF x y) fun r => okP (.bl (!r)) := by
  intro B ρ S H u v x y Q R r1 r2 q
  unfold M.bind at q
  cases e1 : rdU u S with
  | ok a S1 =>
    obtain ⟨rfl, p1⟩ := rdU_ok R r1 e1
    simp only [e1] at q
    cases e2 : rdU v S1 with
    | ok b S2 =>
      obtain ⟨rfl, p2'⟩ := rdU_ok R r2 e2
      simp only [e2] at q
      by_cases hd : (dataW a && dataW b) = true
      · unfold eqM at q
        rw [if_pos hd] at q
        obtain ⟨d1, d2⟩ := Bool.and_eq_true_iff.mp hd
        refine ⟨toD a, toD b, dp_of 60 d1 p1, dp_of 60 d2 p2', shaped_of d1, shaped_of d2, ?_⟩
        rw [eqv_of 60 d1 d2]
        exact q.okU R (repB _)
      · rw [eqM_bad hd] at q
        exact q.elim
    | err _ _ _ => simp only [e2] at q; exact q.elim
    | bad => simp only [e2] at q; exact q.elim
  | err _ _ _ => simp only [e1] at q; exact q.elim
  | bad => simp only [e1] at q; exact q.elim

/-! ### in -/
theorem flat_rep {Z : Addr → Prop} {H : Hp} {w : W} {v : V} (f : flatW w = true) (h : Rep G Z H w v) : flatV v = true ∧ ∀ {w2 : W} {v2 : V}, flatW w2 = true → Rep G Z H w2 v2 → eqV v v2 = eqW w w2 := by
  cases w <;> simp [flatW] at f <;> simp only [Rep] at h <;> subst h <;> refine ⟨rfl, fun {w2 v2} f2 h2 => ?_⟩ <;> cases w2 <;> simp [flatW] at f2 <;> simp only [Rep] at h2 <;> subst h2 <;> simp [eqV, eqW]
theorem eqW_comm_flat {a b : W} (ha : flatW a = true) (hb : flatW b = true) : eqW a b = eqW b a := by
  cases a <;> simp [flatW] at ha <;> cases b <;> simp [flatW] at hb <;> simp only [eqW] <;> first | rfl | exact BEq.comm | skip
theorem flats_rep {Z : Addr → Prop} {H : Hp} {w : W} {v : V} (f : flatW w = true) (h : Rep G Z H w v) : ∀ {xs : List W} {vs : List V}, xs.all flatW = true → Reps G Z H xs vs → vs.all flatV = true ∧ inV v vs = xs.any fun x => eqW w x
  | [], _, _, r => by simp only [Reps] at r; subst r; simp [inV]
  | x :: xs, _, a, r => by
    simp only [Reps] at r
    obtain ⟨v', r', rfl, h1, h2⟩ := r
    simp only [List.all_cons, Bool.and_eq_true] at a
    obtain ⟨i1, i2⟩ := flats_rep f h a.2 h2
    have f1 := (flat_rep a.1 h1).1
    have e1 := (flat_rep a.1 h1).2 f h
    refine ⟨by simp [f1, i1], ?_⟩
    unfold inV at i2 ⊢
    simp only [List.any_cons]
    rw [e1, i2, eqW_comm_flat a.1 f]
theorem str1 {a : Str} (h : a.length = 1) : a = ⟨#[a.cps.toList.headD 0]⟩ := by
  obtain ⟨⟨l⟩⟩ := a
  match l, h with
  | [c], _ => rfl
theorem dataN_up : ∀ (n : Nat) {w : W}, dataN n w = true → dataN (n + 1) w = true
  | n, .non, _ => by cases n <;> rfl
  | n, .bl _, _ => by cases n <;> rfl
  | n, .int _, _ => by cases n <;> rfl
  | n, .str s, h => by cases n <;> exact h
  | 0, .tup _, h => by simp [dataN] at h
  | 0, .lst _, h => by simp [dataN] at h
  | n + 1, .tup xs, h => by
    simp only [dataN, List.all_eq_true] at h ⊢
    exact fun x hx => dataN_up n (h x hx)
  | n + 1, .lst xs, h => by
    simp only [dataN, List.all_eq_true] at h ⊢
    exact fun x hx => dataN_up n (h x hx)
  | n, .dct _, h => by cases n <;> simp [dataN] at h
  | n, .obj _ _, h => by cases n <;> simp [dataN] at h
  | n, .fn _, h => by cases n <;> simp [dataN] at h
  | n, .ty _, h => by cases n <;> simp [dataN] at h
theorem any_eqv {a : W} (ha : dataW a = true) : ∀ {xs : List W}, xs.all (dataN 59) = true → ((toDs xs).any fun z => PyData.eqv z (toD a)) = xs.any fun x => eqW x a
  | [], _ => by simp [toDs]
  | x :: xs, h => by
    simp only [List.all_cons, Bool.and_eq_true] at h
    simp only [toDs, List.any_cons, any_eqv ha h.2, eqv_of 60 (dataN_up 59 h.1) ha]
theorem inD_ok {B : List Addr} {ρ : Nat → Addr} {S : Sto} {H : Hp} {a : W} {xs : List W} {x y : V} (R : RelS G B ρ S H) (r1 : Rep0 G (Zf B ρ S) H a x) (r2 : Rep0 G (Zf B ρ S) H (.lst xs) y) (d1 : dataW a = true) (d2 : dataW (.lst xs) = true) :
    Dp G.K H x (toD a) ∧ Dp G.K H y (.list (toDs xs)) ∧ SeqAt.shaped (toD a) = true ∧ SeqAt.shaped (.list (toDs xs)) = true ∧ ((toDs xs).any fun z => PyData.eqv z (toD a)) = xs.any fun x => eqW x a := by
  have e : toD (.lst xs) = .list (toDs xs) := by simp only [toD]
  refine ⟨dp_of 60 d1 r1, e ▸ dp_of 60 d2 r2, shaped_of d1, e ▸ shaped_of d2, any_eqv d1 ?_⟩
  simpa [dataW, dataN] using d2
theorem bin_in {F : Cf} (x0 : XOk G X N sc) : Bin G X (compareOp .In) (fun u v => prE F .in_ [u, v]) := by
  refine ⟨_, (op_in_seq.or op_in_sign).or (op_inD (by have := x0.un; omega)), ?_⟩
  rw [x0.kk]
  refine op2_p2 fun B ρ S H a b w x y Q R r1 r2 e q => ?_
  unfold oB inW at e
  split at e
  · split at e <;> cases e
    rename_i hc
    obtain ⟨c1, c2⟩ := Bool.and_eq_true_iff.mp hc
    obtain ⟨p, vs, rfl, h2, q2⟩ := rep0_tup r2
    have r1' : Rep G (Zf B ρ S) H a x := by cases a <;> simp [flatW] at c1 <;> exact r1
    obtain ⟨i1, i2⟩ := flats_rep c1 r1' c2 q2
    refine .inl <| .inl ⟨p, vs, rfl, .inr h2, (flat_rep c1 r1').1, i1, ?_⟩
    simp only [Bool.false_eq_true, if_false]
    rw [i2]
    exact q.okU R (repB _)
  · split at e
    · rename_i hc
      cases e
      obtain ⟨c1, c2⟩ := Bool.and_eq_true_iff.mp hc
      obtain ⟨p, vs, rfl, h2, q2⟩ := rep0_lst r2
      have r1' : Rep G (Zf B ρ S) H a x := by cases a <;> simp [flatW] at c1 <;> exact r1
      obtain ⟨i1, i2⟩ := flats_rep c1 r1' c2 q2
      refine .inl <| .inl ⟨p, vs, rfl, .inl (.inl h2), (flat_rep c1 r1').1, i1, ?_⟩
      simp only [Bool.false_eq_true, if_false]
      rw [i2]
      exact q.okU R (repB _)
    · split at e <;> cases e
      rename_i hc
      obtain ⟨c1, c2⟩ := Bool.and_eq_true_iff.mp hc
      obtain ⟨k1, k2, k3, k4, k5⟩ := inD_ok R r1 r2 c1 c2
      refine .inr ⟨_, _, k1, k2, k3, k4, ?_⟩
      rw [k5]
      exact q.okU R (repB _)
  · split at e <;> cases e
    rename_i hl
    rw [rep0_str r1, rep0_str r2]
    exact .inl <| .inr ⟨_, _, congrArg V.str (str1 hl), rfl, q.okU R (repB _)⟩
  · cases e
theorem bin_notin {F : Cf} (x0 : XOk G X N sc) : Bin G X (compareOp .NotIn) (fun u v => prE F .notin [u, v]) := by
  refine ⟨_, (op_notIn_seq.or op_notIn_sign).or (op_notInD (by have := x0.un; omega)), ?_⟩
  rw [x0.kk]
  refine op2_p2 fun B ρ S H a b w x y Q R r1 r2 e q => ?_
  unfold oB inW at e
  split at e
  · split at e <;> cases e
    rename_i hc
    obtain ⟨c1, c2⟩ := Bool.and_eq_true_iff.mp hc
    obtain ⟨p, vs, rfl, h2, q2⟩ := rep0_tup r2
    have r1' : Rep G (Zf B ρ S) H a x := by cases a <;> simp [flatW] at c1 <;> exact r1
    obtain ⟨i1, i2⟩ := flats_rep c1 r1' c2 q2
    refine .inl <| .inl ⟨p, vs, rfl, .inr h2, (flat_rep c1 r1').1, i1, ?_⟩
    simp only [if_true]
    rw [i2]
    exact q.okU R (repB _)
  · split at e
    · rename_i hc
      cases e
      obtain ⟨c1, c2⟩ := Bool.and_eq_true_iff.mp hc
      obtain ⟨p, vs, rfl, h2, q2⟩ := rep0_lst r2
      have r1' : Rep G (Zf B ρ S) H a x := by cases a <;> simp [flatW] at c1 <;> exact r1
      obtain ⟨i1, i2⟩ := flats_rep c1 r1' c2 q2
      refine .inl <| .inl ⟨p, vs, rfl, .inl (.inl h2), (flat_rep c1 r1').1, i1, ?_⟩
      simp only [if_true]
      rw [i2]
      exact q.okU R (repB _)
    · split at e <;> cases e
      rename_i hc
      obtain ⟨c1, c2⟩ := Bool.and_eq_true_iff.mp hc
      obtain ⟨k1, k2, k3, k4, k5⟩ := inD_ok R r1 r2 c1 c2
      refine .inr ⟨_, _, k1, k2, k3, k4, ?_⟩
      rw [k5]
      exact q.okU R (repB _)
  · split at e <;> cases e
    rename_i hl
    rw [rep0_str r1, rep0_str r2]
    exact .inl <| .inr ⟨_, _, congrArg V.str (str1 hl), rfl, q.okU R (repB _)⟩
  · cases e
end
end Pm
end
section
set_option Elab.async false
set_option linter.all false
set_option maxHeartbeats 1000000
/-! Pm6: the built-in calls. -/
namespace Pm
open PySem PySem.Spec PyProof.Rows L2

section
variable {G : Gx} {X : Cx} {N : List Str} {sc : Scope}
def Cal (G : Gx) (X : Cx) (f : Value) (g : List U → M U) : Prop := ∃ r : List V → Hp → VK → Prop, CallR X f r ∧ OpN G r g
theorem opN_p1 {r : List V → Hp → VK → Prop} {g : W → Option W} (h : ∀ (B : List Addr) (ρ : Nat → Addr) (S : Sto) (H : Hp) (a w : W) (x : V) (Q : VK), RelS G B ρ S H → Rep0 G (Zf B ρ S) H a x → g a = some w →
    FinG G B (RpU G) Q ρ S H (.ok (.p w) S) → r [x] H Q) : OpN G r (p1 g) := by
  intro B ρ S H us xs Q R rs q
  match us, rs, q with
  | [u], rs, q =>
    obtain ⟨x, rfl, r1⟩ := rs.eq1
    exact op1_p1 (r := fun x H Q => r [x] H Q) h B ρ S H u x Q R r1 q
  | [], _, q => exact q.elim
  | _ :: _ :: _, _, q => exact q.elim
theorem opN_p2 {r : List V → Hp → VK → Prop} {g : W → W → Option W} (h : ∀ (B : List Addr) (ρ : Nat → Addr) (S : Sto) (H : Hp) (a b w : W) (x y : V) (Q : VK), RelS G B ρ S H → Rep0 G (Zf B ρ S) H a x → Rep0 G (Zf B ρ S) H b y → g a b = some w →
    FinG G B (RpU G) Q ρ S H (.ok (.p w) S) → r [x, y] H Q) : OpN G r (p2 g) := by
  intro B ρ S H us xs Q R rs q
  match us, rs, q with
  | [u, v], rs, q =>
    obtain ⟨x, y, rfl, r1, r2⟩ := rs.eq2
    exact op2_p2 (r := fun x y H Q => r [x, y] H Q) h B ρ S H u v x y Q R r1 r2 q
  | [], _, q => exact q.elim
  | [_], _, q => exact q.elim
  | _ :: _ :: _ :: _, _, q => exact q.elim
theorem bools_rep {Z : Addr → Prop} {H : Hp} : ∀ {xs : List W} {vs : List V} {bs : List Bool}, boolsW xs = some bs → Reps G Z H xs vs → vs = bs.map V.bl
  | [], _, bs, e, r => by simp only [boolsW, Option.some.injEq] at e; subst e; simp only [Reps] at r; subst r; rfl
  | x :: xs, _, bs, e, r => by
    cases x <;> simp only [boolsW, Option.map_eq_some_iff, reduceCtorEq] at e
    obtain ⟨bs', e1, rfl⟩ := e
    simp only [Reps] at r
    obtain ⟨v, r', rfl, h1, h2⟩ := r
    simp only [Rep] at h1
    rw [h1, bools_rep e1 h2]
    rfl
theorem ints_rep {Z : Addr → Prop} {H : Hp} : ∀ {xs : List W} {vs : List V} {bs : List Int}, intsW xs = some bs → Reps G Z H xs vs → vs = bs.map V.int
  | [], _, bs, e, r => by simp only [intsW, Option.some.injEq] at e; subst e; simp only [Reps] at r; subst r; rfl
  | x :: xs, _, bs, e, r => by
    cases x <;> simp only [intsW, Option.map_eq_some_iff, reduceCtorEq] at e
    obtain ⟨bs', e1, rfl⟩ := e
    simp only [Reps] at r
    obtain ⟨v, r', rfl, h1, h2⟩ := r
    simp only [Rep] at h1
    rw [h1, ints_rep e1 h2]
    rfl
theorem strs_rep {Z : Addr → Prop} {H : Hp} : ∀ {xs : List W} {vs : List V} {bs : List Str}, strsW xs = some bs → Reps G Z H xs vs → vs = bs.map V.str
  | [], _, bs, e, r => by simp only [strsW, Option.some.injEq] at e; subst e; simp only [Reps] at r; subst r; rfl
  | x :: xs, _, bs, e, r => by
    cases x <;> simp only [strsW, Option.map_eq_some_iff, reduceCtorEq] at e
    obtain ⟨bs', e1, rfl⟩ := e
    simp only [Reps] at r
    obtain ⟨v, r', rfl, h1, h2⟩ := r
    simp only [Rep] at h1
    rw [h1, strs_rep e1 h2]
    rfl
theorem cal_len {F : Cf} (x0 : XOk G X N sc) : Cal G X (.builtin "len") (prE F .len) := by
  refine ⟨_, call_len, ?_⟩
  rw [x0.kk]
  refine opN_p1 fun B ρ S H a w x Q R r e q => ?_
  cases a <;> simp only [lenW, Option.map_some, Option.map_none, Option.some.injEq, reduceCtorEq] at e
  · split at e <;> cases e
    rename_i hl
    rw [rep0_str r]
    exact ⟨_, _, rfl, ⟨Nat.le_trans hl big_line, rfl⟩, q.okU R (repI _)⟩
  · subst e
    obtain ⟨p, vs, rfl, h, t⟩ := rep0_tup r
    exact ⟨_, _, rfl, .inr ⟨vs, h, rfl⟩, by rw [t.length]; exact q.okU R (repI _)⟩
  · subst e
    obtain ⟨p, vs, rfl, h, t⟩ := rep0_lst r
    exact ⟨_, _, rfl, .inl ⟨vs, .inl h, rfl⟩, by rw [t.length]; exact q.okU R (repI _)⟩
theorem cal_all {F : Cf} (x0 : XOk G X N sc) : Cal G X (.builtin "all") (prE F .all) := by
  refine ⟨_, cr_all x0.calm, ?_⟩
  rw [x0.kk]
  refine opN_p1 fun B ρ S H a w x Q R r e q => ?_
  cases a <;> simp only [Option.map_eq_some_iff, reduceCtorEq] at e
  obtain ⟨bs, e1, rfl⟩ := e
  obtain ⟨p, vs, rfl, h, t⟩ := rep0_lst r
  have := bools_rep e1 t
  subst this
  exact ⟨p, bs, rfl, .inl h, q.okU R (repB _)⟩
theorem cal_any {F : Cf} (x0 : XOk G X N sc) : Cal G X (.builtin "any") (prE F .any) := by
  refine ⟨_, cr_any x0.calm, ?_⟩
  rw [x0.kk]
  refine opN_p1 fun B ρ S H a w x Q R r e q => ?_
  cases a <;> simp only [Option.map_eq_some_iff, reduceCtorEq] at e
  obtain ⟨bs, e1, rfl⟩ := e
  obtain ⟨p, vs, rfl, h, t⟩ := rep0_lst r
  have := bools_rep e1 t
  subst this
  exact ⟨p, bs, rfl, .inl h, q.okU R (repB _)⟩
theorem cal_sum {F : Cf} (x0 : XOk G X N sc) : Cal G X (.builtin "sum") (prE F .sum) := by
  refine ⟨_, cr_sum x0.calm, ?_⟩
  rw [x0.kk]
  refine opN_p1 fun B ρ S H a w x Q R r e q => ?_
  cases a <;> simp only [Option.map_eq_some_iff, reduceCtorEq] at e
  obtain ⟨bs, e1, rfl⟩ := e
  obtain ⟨p, vs, rfl, h, t⟩ := rep0_lst r
  have := ints_rep e1 t
  subst this
  exact ⟨p, bs, rfl, .inl h, q.okU R (repI _)⟩
theorem cal_abs {F : Cf} (x0 : XOk G X N sc) : Cal G X (.builtin "abs") (prE F .abs) := by
  refine ⟨_, call_abs, opN_p1 fun B ρ S H a w x Q R r e q => ?_⟩
  cases a <;> simp only [Option.some.injEq, reduceCtorEq] at e
  subst e
  rw [rep0_int r]
  exact ⟨_, rfl, q.okU R (repI _)⟩
theorem cal_min2 {F : Cf} (x0 : XOk G X N sc) : Cal G X (.builtin "min") (prE F .min2) := by
  refine ⟨_, call_min2 x0.calm, opN_p2 fun B ρ S H a b w x y Q R r1 r2 e q => ?_⟩
  cases a <;> cases b <;> simp only [Option.some.injEq, reduceCtorEq] at e
  subst e
  rw [rep0_int r1, rep0_int r2]
  exact ⟨_, _, rfl, q.okU R (repI _)⟩
theorem cal_max2 {F : Cf} (x0 : XOk G X N sc) : Cal G X (.builtin "max") (prE F .max2) := by
  refine ⟨_, call_max2 x0.calm, opN_p2 fun B ρ S H a b w x y Q R r1 r2 e q => ?_⟩
  cases a <;> cases b <;> simp only [Option.some.injEq, reduceCtorEq] at e
  subst e
  rw [rep0_int r1, rep0_int r2]
  exact ⟨_, _, rfl, q.okU R (repI _)⟩
theorem cal_divmod {F : Cf} (x0 : XOk G X N sc) : Cal G X (.builtin "divmod") (prE F .divmod) := by
  refine ⟨_, call_divmodW, opN_p2 fun B ρ S H a b w x y Q R r1 r2 e q => ?_⟩
  cases a <;> cases b <;> simp only [reduceCtorEq] at e
  split at e <;> cases e
  rename_i hc
  rw [rep0_int r1, rep0_int r2]
  exact ⟨_, _, rfl, ⟨hc.1, PyProof.noPylong_of_log2 (div_ok hc.1 hc.2)⟩, fun p n => fin_tup q R (Reps.cons (repI _) (Reps.cons (repI _) Reps.nil)) n⟩
theorem log2_1920 {n : Nat} (h : n < strLine) : n.log2 < 1920 := Nat.lt_of_lt_of_le (PySem.Flt.log2_lt_of (k := 1900) (by omega) h) (by omega)
theorem seqW_rep {Z : Addr → Prop} {H : Hp} {a : W} {ws : List W} {x : V} (e : seqW a = some ws) (r : Rep0 G Z H a x) : ∃ p vs, x = .ref p ∧ (Rd H p (.lst vs) ∧ a = .lst ws ∨ SqT G.K H p vs ∧ a = .tup ws) ∧ Reps G Z H ws vs := by
  cases a <;> simp only [seqW, Option.some.injEq, reduceCtorEq] at e
  · subst e
    obtain ⟨p, vs, rfl, h, t⟩ := rep0_tup r
    exact ⟨p, vs, rfl, .inr ⟨h, rfl⟩, t⟩
  · subst e
    obtain ⟨p, vs, rfl, h, t⟩ := rep0_lst r
    exact ⟨p, vs, rfl, .inl ⟨h, rfl⟩, t⟩
theorem cal_tuple {F : Cf} (x0 : XOk G X N sc) : Cal G X (.type "tuple") (prE F .tuple) := by
  refine ⟨_, call_tuple_of, ?_⟩
  rw [x0.kk]
  refine opN_p1 fun B ρ S H a w x Q R r e q => ?_
  simp only [Option.map_eq_some_iff] at e
  obtain ⟨ws, e1, rfl⟩ := e
  obtain ⟨p, vs, rfl, h, t⟩ := seqW_rep e1 r
  rcases h with ⟨h, _⟩ | ⟨h, _⟩
  · exact ⟨p, vs, rfl, .inl ⟨.inl h, fun l n => fin_tup q R t n⟩⟩
  · exact ⟨p, vs, rfl, .inr ⟨h, q.okU R (repT h t)⟩⟩
theorem cal_listF {F : Cf} (x0 : XOk G X N sc) : Cal G X (.type "list") (prE F (.list false)) := by
  refine ⟨_, call_list_of, ?_⟩
  rw [x0.kk]
  refine opN_p1 fun B ρ S H a w x Q R r e q => ?_
  simp only [Option.map_eq_some_iff] at e
  obtain ⟨ws, e1, rfl⟩ := e
  obtain ⟨p, vs, rfl, h, t⟩ := seqW_rep e1 r
  rcases h with ⟨h, _⟩ | ⟨h, _⟩
  · exact ⟨p, vs, rfl, .inl (.inl h), fun l n => fin_lst q R t n⟩
  · exact ⟨p, vs, rfl, .inr h, fun l n => fin_lst q R t n⟩
theorem cal_listT {F : Cf} (x0 : XOk G X N sc) : Cal G X (.type "list") (prE F (.list true)) := by
  refine ⟨_, call_list_of, ?_⟩
  rw [x0.kk]
  intro B ρ S H us xs Q R rs q
  match us, rs, q with
  | [u], rs, q =>
    obtain ⟨x, rfl, r1⟩ := rs.eq1
    simp only [prE, M.bind] at q
    cases e1 : rdU u S with
    | ok a S1 =>
      obtain ⟨rfl, p1⟩ := rdU_ok R r1 e1
      simp only [e1] at q
      cases e2 : seqW a with
      | some ws =>
        simp only [e2] at q
        obtain ⟨p, vs, rfl, h, t⟩ := seqW_rep e2 p1
        rcases h with ⟨h, _⟩ | ⟨h, _⟩
        · exact ⟨p, vs, rfl, .inl (.inl h), fun l n => fin_newL q R t n⟩
        · exact ⟨p, vs, rfl, .inr h, fun l n => fin_newL q R t n⟩
      | none => simp only [e2] at q; exact q.elim
    | err _ _ _ => simp only [e1] at q; exact q.elim
    | bad => simp only [e1] at q; exact q.elim
  | [], _, q => exact q.elim
  | _ :: _ :: _, _, q => exact q.elim

/-! ### subscripts -/
theorem ix_all {F : Cf} (x0 : XOk G X N sc) : IxR X (rIx G.K) ∧ Op2 G (rIx G.K) (fun u v => prE F .ix [u, v]) := by
  refine ⟨x0.kk ▸ ix_seq, op2_p2 fun B ρ S H a b w x y Q R r1 r2 e q => ?_⟩
  unfold ixW at e
  split at e
  · obtain ⟨p, vs, rfl, h, t⟩ := rep0_tup r1
    rw [rep0_int r2]
    obtain ⟨k, e1, e2⟩ := Option.bind_eq_some_iff.mp e
    obtain ⟨v, e3, h3⟩ := t.get e2
    exact .inr (.inl ⟨p, vs, _, v, rfl, rfl, h, by unfold atI; rw [t.length, show ixN _ _ = some k from e1]; exact e3, q.okU R h3⟩)
  · obtain ⟨p, vs, rfl, h, t⟩ := rep0_lst r1
    rw [rep0_int r2]
    obtain ⟨k, e1, e2⟩ := Option.bind_eq_some_iff.mp e
    obtain ⟨v, e3, h3⟩ := t.get e2
    exact .inl ⟨p, vs, _, v, rfl, rfl, .inl h, by unfold atI; rw [t.length, show ixN _ _ = some k from e1]; exact e3, q.okU R h3⟩
  · rename_i s i
    split at e
    · rename_i hl
      rw [rep0_str r1, rep0_int r2]
      obtain ⟨k, e1, e2⟩ := Option.bind_eq_some_iff.mp e
      obtain ⟨c, e3, rfl⟩ := Option.map_eq_some_iff.mp e2
      refine .inr (.inr ⟨_, _, c, rfl, rfl, Nat.le_trans hl big_line, ?_, q.okU R (repS _)⟩)
      unfold atI
      have : s.cps.toList.length = s.length := by simp [Str.length]
      rw [this, show ixN _ _ = some k from e1]
      exact e3
    · cases e
  · cases e
end
end Pm
end
section
set_option Elab.async false
set_option linter.all false
set_option maxHeartbeats 1000000
/-! Pm7: targets, walked things, the side conditions of syntax. -/
namespace Pm
open PySem PySem.Spec PyProof.Rows L2

/-! ### syntax -/
def isStar : Expr → Bool
  | .Starred _ _ => true
  | _ => false
def isSlice : Expr → Bool
  | .Slice _ _ _ _ => true
  | _ => false
def notSuper : Expr → Bool
  | .Call (.Name _ _) [] [] _ => false
  | _ => true
def plainT : Expr → Bool
  | .UnaryOp .Not _ _ => false
  | .BoolOp _ _ _ => false
  | .IfExp _ _ _ _ => false
  | .Compare _ _ _ _ => false
  | _ => true
theorem star_cons {e : Expr} {es : List Expr} {env : Env} (h : isStar e = false) : starEach (e :: es) env = (false, eval e env) :: starEach es env := by
  cases e <;> first | rfl | cases h
theorem star_any {pos : Pos} {env : Env} : ∀ {es : List Expr}, es.all (fun e => !isStar e) = true → (backTo pos (starEach es env)).any (·.1) = false
  | [], _ => rfl
  | e :: es, h => by
    simp only [List.all_cons, Bool.and_eq_true, Bool.not_eq_true'] at h
    rw [star_cons h.1]
    show (false || (backTo pos (starEach es env)).any (·.1)) = false
    rw [star_any h.2]
    rfl
theorem base_ok {e : Expr} {f : Str} {env : Env} (h : notSuper e = true) : attributeBase e f env (eval e env) = eval e env := by
  unfold attributeBase
  split
  · cases h
  · rfl
theorem plain_ix {b : Expr} (h : isSlice b = false) : PlainIx b := fun o i => by
  cases b <;> first | rfl | cases h
theorem isTrue_plainT {e : Expr} {env : Env} (h : plainT e = true) : ∀ whole, isTrue e env whole = (do let v ← whole; standAt e.pos; holding [v] (truthy v)) := fun whole => by
  cases e <;> first | rfl | (rename_i op _ _; cases op <;> first | rfl | cases h) | cases h
theorem kw_names {env : Env} {pos : Pos} : ∀ {kws : List Keyword}, kws.all (fun k => k.arg.isSome) = true →
    (backToKw pos (keywordEach kws env)).all (·.1.isSome) = true ∧ (backToKw pos (keywordEach kws env)).filterMap (·.1) = kws.filterMap (·.arg) ∧ (backToKw pos (keywordEach kws env)).any (·.1.isNone) = false
  | [], _ => ⟨rfl, rfl, rfl⟩
  | ⟨some n, e, p⟩ :: kws, h => by
    simp only [List.all_cons, Bool.and_eq_true] at h
    obtain ⟨a, b, c⟩ := kw_names (env := env) (pos := pos) h.2
    refine ⟨?_, ?_, ?_⟩
    · show (true && (backToKw pos (keywordEach kws env)).all (·.1.isSome)) = true
      rw [a]; rfl
    · show n :: (backToKw pos (keywordEach kws env)).filterMap (·.1) = n :: kws.filterMap (·.arg)
      rw [b]
    · show (false || (backToKw pos (keywordEach kws env)).any (·.1.isNone)) = false
      rw [c]; rfl
  | ⟨none, e, p⟩ :: kws, h => by simp at h

/-! ### targets -/
section
variable {prog : Program} {w : World} {A : Around} {E : Value → Shared → Prop} {s : Shared}
theorem draw_lst {it l : Addr} {items : Array Value} (hne : l ≠ it) : ∀ (n i : Nat) (s : Shared) (Q : List Value → Shared → Prop), s.heap.IsListIter it l i → s.heap.IsList l items → i + n ≤ items.size →
    (∀ h' : Heap, h'.IsListIter it l (i + n) → Heap.SameBut it s.heap h' → Q ((items.toList.drop i).take n) { s with heap := h' }) → wpAny (model prog w) A (draw (.ref it) n) Q E s
  | 0, i, s, Q, hit, _, _, hQ => by
    show wpAny _ _ (pure []) Q E s
    exact wpAny_pure (by simpa using hQ s.heap hit (Heap.SameBut.refl ..))
  | n + 1, i, s, Q, hit, ht, hle, hQ => by
    have hlt : i < items.size := by omega
    show wpAny _ _ (pyNext (.ref it) >>= _) Q E s
    refine wpAny_bind (PySem.wpAny_pyNext_list_item hit ht (x := items[i]) (by simp [hlt]) fun h₁ hit₁ hs₁ => ?_)
    refine wpAny_bind (wpAny_holding (draw_lst hne n (i + 1) _ _ hit₁ (ht.extBut hs₁.extBut hne) (by omega) fun h₂ hit₂ hs₂ => wpAny_pure ?_))
    have hd : items.toList.drop i = items[i] :: items.toList.drop (i + 1) := by simp [List.drop_eq_getElem_cons, hlt]
    have := hQ h₂ (by rw [show i + (n + 1) = i + 1 + n by omega]; exact hit₂) (hs₁.trans hs₂)
    rw [hd, List.take_succ_cons] at this
    exact this
theorem unpackItems_lst {t : Addr} {items : Array Value} {Q : List Value → Shared → Prop} (hh : A.handled = none) (ht : s.heap.IsList t items)
    (hQ : ∀ h', Heap.ExtBut s.heap.objs.size s.heap h' → Q items.toList { s with heap := h' }) : wpAny (model prog w) A (unpackItems (.ref t) items.size none) Q E s := by
  have hlt : t ≠ s.heap.objs.size := by obtain ⟨o, ho, _⟩ := id ht; exact Nat.ne_of_lt (Heap.lt_size ho)
  unfold unpackItems
  refine wpAny_bind ?_
  · unfold notIterableAtAll
    refine wpAny_bind (wpAny_specialOf ht.typeIs PySem.slot_list_iter.lookup ?_)
    refine wpAny_pure ?_
    simp only [Bool.false_eq_true, if_false]
    refine wpAny_bind (wpAny_holding (PySem.wpAny_pyIter_list ht ?_))
    refine wpAny_bind (wpAny_holding (draw_lst hlt items.size 0 _ _ ⟨_, Heap.get?_push_size _ rfl, rfl, rfl⟩ (ht.push _) (by omega) fun h₁ hit₁ hs₁ => ?_))
    have hall : List.take items.size (List.drop 0 items.toList) = items.toList := by
      rw [List.drop_zero]; exact List.take_of_length_le (by simp)
    rw [hall]
    rw [if_neg (by simp)]
    have ht₁ : Heap.IsList h₁ t items := (ht.push _).extBut hs₁.extBut hlt
    refine wpAny_bind (wpAny_holding (PySem.wpAny_pyNext_list_end hh hit₁ ht₁ (by simp) fun h₂ he₂ => ?_))
    simp only [Option.isSome_none, Bool.false_eq_true, if_false]
    refine wpAny_pure (hQ h₂ fun b o hb e => he₂ b o hb (hs₁.extBut b o hb (Heap.get?_push_of_some _ e)))
theorem assign_Tuple_lst {Q : Unit → Shared → Prop} {env : Env} {elts : List Expr} {x1} {pos : Pos} {t : Addr} {items : Array Value} (hh : A.handled = none) (ht : s.heap.IsList t items)
    (hn : (assignEach elts env).length = items.size) (hstar : (assignEach elts env).findIdx? (·.1) = none)
    (h : ∀ h', Heap.ExtBut s.heap.objs.size s.heap h' → wpAny (model prog w) A (assignInOrder ((assignEach elts env).map (·.2)) items.toList) Q E { s with heap := h' }) :
    wpAny (model prog w) A (assign (.Tuple elts x1 pos) env (.ref t)) Q E s := by
  rw [assign_Tuple]
  refine wpAny_bind (wpAny_standAt ?_)
  unfold unpack
  rw [hn, hstar]
  exact wpAny_bind (wpAny_holding (unpackItems_lst hh ht h))
end
/-- (a, b, ..) = a tuple or a list of that length -/
def gSeq (K : PySem.W.Frag) (n : Nat) (t : TGs) : TG := fun v σ H Q => ∃ a xs, v = .ref a ∧ (SqT K H a xs ∨ SqL K H a xs) ∧ xs.length = n ∧ t xs σ H Q
theorem pg_seq {X : Cx} {pos : Pos} {es : List Expr} {k : Nat} {t : TGs} {n : Nat} (hc : X.calm = true) (h : PGs X es t)
    (hn : (assignEach es X.env).length = n := by rfl) (hst : (assignEach es X.env).findIdx? (·.1) = none := by rfl) : PG X (.Tuple es k pos) (gSeq X.K n t) := by
  refine ⟨fun pins s σ H v u Q I r hw => ?_⟩
  obtain ⟨a, xs, e1, hq, hl, hw⟩ := hw
  rcases hq with hq | hq
  · exact (pg_tup hc h hn hst).run pins s σ H v u Q I r ⟨a, xs, e1, hq, hl, hw⟩
  · subst e1
    cases r
    obtain ⟨its, rv, ht, hz⟩ := I.list hq
    refine assign_Tuple_lst (I.ok.hd hc) ht.isList (by simp [hn, ← hl, rv.length]) hst fun h' hx => ?_
    have I1 : Inv X pins σ H { s with heap := h' } := I.kept (t' := s.toks) fun b o e => hx b o (Nat.ne_of_lt (Heap.lt_size e)) e
    exact h.run pins _ σ H xs _ Q I1 (by simpa using rv) hw
mutual
def tgR (G : Gx) : Tg → TG
  | .nm i => gName i
  | .tp ts => gSeq G.K ts.length (tgsR G ts)
def tgsR (G : Gx) : List Tg → TGs
  | [] => gNil
  | t :: ts => gCons (tgR G t) (tgsR G ts)
end
mutual
def tgS : Tg → List Nat
  | .nm i => [i]
  | .tp ts => tgsS ts
def tgsS : List Tg → List Nat
  | [] => []
  | t :: ts => tgS t ++ tgsS ts
end
def locB (sc : Scope) (x : Str) : Bool := match sc.names.lookup x with
  | some .local => true
  | some .cell => true
  | _ => false
def visB (sc : Scope) (x : Str) : Bool := match sc.names.lookup x with
  | some .local => true
  | some .cell => true
  | some .free => true
  | _ => false
def isTgE : Expr → Bool
  | .Name _ _ => true
  | .Tuple _ _ _ => true
  | _ => false
mutual
def chkT (N : List Str) (sc : Scope) : Tg → Expr → Bool
  | .nm i, .Name x _ => decide (N[i]? = some x) && locB sc x
  | .tp ts, .Tuple es _ _ => chkTs N sc ts es
  | _, _ => false
def chkTs (N : List Str) (sc : Scope) : List Tg → List Expr → Bool
  | [], [] => true
  | t :: ts, e :: es => isTgE e && (chkT N sc t e && chkTs N sc ts es)
  | _, _ => false
end
section
variable {G : Gx} {X : Cx} {N : List Str} {sc : Scope}
theorem loc_of {x : Str} (h : locB sc x = true) : Loc sc x := by
  unfold locB at h
  split at h <;> first | exact .inl (by assumption) | exact .inr (by assumption) | cases h
theorem vis_of {x : Str} (h : visB sc x = true) : Vis sc x := by
  unfold visB at h
  split at h <;> first | exact .inl (by assumption) | exact .inr (.inl (by assumption)) | exact .inr (.inr (by assumption)) | cases h
theorem XOk.loc (x0 : XOk G X N sc) {x : Str} (h : locB sc x = true) : Loc X.env.scope x ∧ (X.fn x = true ∨ X.env.scope.names.lookup x = some .local) := by
  rcases loc_of h with h | h
  · rcases x0.ss x _ h with k | ⟨k, _⟩
    · exact ⟨.inl k, .inr k⟩
    · cases k
  · rcases x0.ss x _ h with k | ⟨k, _⟩
    · exact ⟨.inr k, .inl (x0.fnok x h)⟩
    · cases k
theorem XOk.vis (x0 : XOk G X N sc) {x : Str} (h : visB sc x = true) : Vis X.env.scope x := by
  rcases vis_of h with h | h | h
  · rcases x0.ss x _ h with k | ⟨k, _⟩
    · exact .inl k
    · cases k
  · rcases x0.ss x _ h with k | ⟨k, _⟩
    · exact .inr (.inl k)
    · cases k
  · rcases x0.ss x _ h with k | ⟨_, k⟩
    · exact .inr (.inr k)
    · exact .inr (.inl k)
theorem assignEach_tg {es : List Expr} {env : Env} (h : es.all isTgE = true) : (assignEach es env).length = es.length ∧ (assignEach es env).findIdx? (·.1) = none ∧ (assignEach es env).map (·.2) = es.map fun e => assign e env := by
  induction es with
  | nil => exact ⟨rfl, rfl, rfl⟩
  | cons e es ih =>
    simp only [List.all_cons, Bool.and_eq_true] at h
    obtain ⟨a, b, c⟩ := ih h.2
    have e1 : assignEach (e :: es) env = (false, assign e env) :: assignEach es env := by
      cases e <;> first | rfl | cases h.1
    rw [e1]
    refine ⟨by simp [a], ?_, by simp [c]⟩
    rw [List.findIdx?_cons]
    simp [b]
theorem chkTs_tg : ∀ {ts : List Tg} {es : List Expr}, chkTs N sc ts es = true → es.all isTgE = true ∧ es.length = ts.length
  | [], [], _ => ⟨rfl, rfl⟩
  | t :: ts, e :: es, h => by
    simp only [chkTs, Bool.and_eq_true] at h
    obtain ⟨a, b⟩ := chkTs_tg h.2.2
    exact ⟨by simp [h.1, a], by simp [b]⟩
  | [], _ :: _, h => by simp [chkTs] at h
  | _ :: _, [], h => by simp [chkTs] at h
mutual
theorem tg_snd (x0 : XOk G X N sc) : ∀ {t : Tg} {e : Expr}, chkT N sc t e = true → PG X e (tgR G t)
  | .nm i, e, h => by
    cases e <;> simp only [chkT, Bool.false_eq_true] at h
    simp only [Bool.and_eq_true, decide_eq_true_eq] at h
    obtain ⟨hl, hf⟩ := x0.loc h.2
    simp only [tgR]
    exact pg_name (x0.nn.symm ▸ x0.nd) (by rw [x0.nn]; exact h.1) hl hf
  | .tp ts, e, h => by
    cases e <;> simp only [chkT, Bool.false_eq_true] at h
    obtain ⟨a, b⟩ := chkTs_tg h
    simp only [tgR]
    rw [← x0.kk]
    exact pg_seq x0.calm (tgs_snd x0 h) ((assignEach_tg a).1.trans b) (assignEach_tg a).2.1
theorem tgs_snd (x0 : XOk G X N sc) : ∀ {ts : List Tg} {es : List Expr}, chkTs N sc ts es = true → PGs X es (tgsR G ts)
  | [], [], _ => by simp only [tgsR]; exact pgs_nil
  | t :: ts, e :: es, h => by
    have ha := (chkTs_tg h).1
    simp only [chkTs, Bool.and_eq_true] at h
    simp only [tgsR]
    refine pgs_cons (tg_snd x0 h.2.1) (tgs_snd x0 h.2.2) ?_
    simp only [List.all_cons, Bool.and_eq_true] at ha
    rw [(assignEach_tg (es := e :: es) (by simp [ha.1, ha.2])).2.2, (assignEach_tg ha.2).2.2]
    rfl
  | [], _ :: _, h => by simp [chkTs] at h
  | _ :: _, [], h => by simp [chkTs] at h
end
theorem wipe_set {σ : L2.St} {i : Nat} {v : Option V} : ∀ {vs : List Nat}, i ∈ vs → L2.wipe (σ.set i v) vs = L2.wipe σ vs
  | j :: vs, h => by
    simp only [L2.wipe]
    by_cases hij : i ∈ vs
    · rw [wipe_set hij]
    · have e : i = j := by rcases List.mem_cons.mp h with e | e; exact e; exact absurd e hij
      subst e
      have : ∀ us : List Nat, i ∉ us → L2.wipe (σ.set i v) us = (L2.wipe σ us).set i v := by
        intro us
        induction us with
        | nil => intro _; rfl
        | cons u us ih =>
          intro hu
          simp only [L2.wipe]
          rw [ih (by simp at hu; exact hu.2), List.set_comm _ _ (by simp at hu; exact fun z => hu.1 z)]
      rw [this vs hij, List.set_set]
  | [], h => by simp at h
mutual
theorem tg_bind {B : List Addr} {ρ : Nat → Addr} {S : Sto} {H : Hp} : ∀ {t : Tg} {w : W} {v : V} {τ τ1 : Lo} {σ : L2.St}, bindTg t w τ = some τ1 → RelL G B ρ S H τ σ → Rep G (Zf B ρ S) H w v →
    ∃ σ1, RelL G B ρ S H τ1 σ1 ∧ (∀ vs, (∀ i ∈ tgS t, i ∈ vs) → L2.wipe σ1 vs = L2.wipe σ vs) ∧ ∀ Q : L2.St → Hp → Prop, Q σ1 H → tgR G t v σ H Q
  | .nm i, w, v, τ, τ1, σ, e, L, r => by
    simp only [bindTg, Option.some.injEq] at e
    subst e
    refine ⟨σ.set i (some v), L.set r, fun vs h => wipe_set (h i (by simp [tgS])), fun Q q => ?_⟩
    simp only [tgR]
    exact q
  | .tp ts, w, v, τ, τ1, σ, e, L, r => by
    cases w <;> simp only [bindTg, reduceCtorEq] at e
    · simp only [Rep] at r
      obtain ⟨a, vs, rfl, q, rs⟩ := r
      obtain ⟨σ1, L1, hw, hl, k⟩ := tgs_bind e L rs
      refine ⟨σ1, L1, fun vs h => hw vs (by simpa [tgS] using h), fun Q q1 => ?_⟩
      simp only [tgR]
      exact ⟨a, vs, rfl, .inl q, by rw [rs.length]; exact hl, k Q q1⟩
    · simp only [Rep] at r
      obtain ⟨a, vs, rfl, q, _, rs⟩ := r
      obtain ⟨σ1, L1, hw, hl, k⟩ := tgs_bind e L rs
      refine ⟨σ1, L1, fun vs h => hw vs (by simpa [tgS] using h), fun Q q1 => ?_⟩
      simp only [tgR]
      exact ⟨a, vs, rfl, .inr (.inl q), by rw [rs.length]; exact hl, k Q q1⟩
theorem tgs_bind {B : List Addr} {ρ : Nat → Addr} {S : Sto} {H : Hp} : ∀ {ts : List Tg} {ws : List W} {vs : List V} {τ τ1 : Lo} {σ : L2.St}, bindTgs ts ws τ = some τ1 → RelL G B ρ S H τ σ → Reps G (Zf B ρ S) H ws vs →
    ∃ σ1, RelL G B ρ S H τ1 σ1 ∧ (∀ us, (∀ i ∈ tgsS ts, i ∈ us) → L2.wipe σ1 us = L2.wipe σ us) ∧ ws.length = ts.length ∧ ∀ Q : L2.St → Hp → Prop, Q σ1 H → tgsR G ts vs σ H Q
  | [], ws, vs, τ, τ1, σ, e, L, r => by
    cases ws <;> simp only [bindTgs, Option.some.injEq, reduceCtorEq] at e
    subst e
    simp only [Reps] at r
    subst r
    refine ⟨σ, L, fun _ _ => rfl, rfl, fun Q q => ?_⟩
    simp only [tgsR]
    exact ⟨rfl, q⟩
  | t :: ts, ws, vs, τ, τ1, σ, e, L, r => by
    cases ws with
    | nil => simp [bindTgs] at e
    | cons w ws =>
      simp only [bindTgs, Option.bind_eq_some_iff] at e
      obtain ⟨τ2, e1, e2⟩ := e
      simp only [Reps] at r
      obtain ⟨v, r', rfl, h1, h2⟩ := r
      obtain ⟨σ2, L2', hw2, k2⟩ := tg_bind e1 L h1
      obtain ⟨σ1, L1, hw1, hl, k1⟩ := tgs_bind e2 L2' h2
      refine ⟨σ1, L1, fun us h => ?_, by simp [hl], fun Q q => ?_⟩
      · rw [hw1 us fun i hi => h i (by simp [tgsS, hi]), hw2 us fun i hi => h i (by simp [tgsS, hi])]
      · simp only [tgsR]
        exact ⟨v, r', rfl, k2 _ (k1 Q q)⟩
end
end

/-! ### walked things -/
def ItOk (G : Gx) (J : It) (ws : List W) (B : List Addr) (ρ : Nat → Addr) (S : Sto) (H : Hp) : Prop :=
  ∀ B1 ρ1 S1 H1, (∀ b ∈ B1, b ∈ B ∨ H b = none) → Stp ρ S H ρ1 S1 H1 → RelS G B1 ρ1 S1 H1 → ∀ i,
    (i = ws.length → J.stop i H1) ∧ ∀ w, ws[i]? = some w → J.go i H1 ∧ ∀ x H2, J.yld i H1 x H2 → (∀ a o, H1 a = some o → H2 a = some o) ∧ Rep G (Zf B1 ρ1 S1) H2 w x
abbrev ItG (G : Gx) (B : List Addr) (R : It → Hp → Prop) (ρ : Nat → Addr) (S : Sto) (H : Hp) : Res U → Prop
  | .ok (.p w) S' => ∃ ws, itemsW w = some ws ∧ ∀ J ρ' H', Stp ρ S H ρ' S' H' → RelS G B ρ' S' H' → ItOk G J ws B ρ' S' H' → R J H'
  | .ok (.loc n) S' => ∃ ws, S'[n]? = some (some (.lst ws)) ∧ ∀ J ρ' H', Stp ρ S H ρ' S' H' → RelS G B ρ' S' H' → ItOk G J ws (ρ' n :: B) ρ' (S'.set n none) H' → R J H'
  | _ => False
def rdI (G : Gx) (m : Lo → M U) : TI := fun σ H R => ∃ B ρ S τ, RelS G B ρ S H ∧ RelL G B ρ S H τ σ ∧ ItG G B R ρ S H (m τ S)
theorem ItG.later {G : Gx} {B : List Addr} {R : It → Hp → Prop} {ρ ρ' : Nat → Addr} {S S' : Sto} {H H' : Hp} {r : Res U} (h : ItG G B R ρ S H r) (s : Stp ρ S H ρ' S' H') : ItG G B R ρ' S' H' r := by
  cases r with
  | err _ _ _ => exact h
  | bad => exact h
  | ok u S2 =>
    cases u with
    | p w =>
      obtain ⟨ws, e, k⟩ := h
      exact ⟨ws, e, fun J ρ2 H2 t R2 i => k J ρ2 H2 (s.trans t) R2 i⟩
    | loc n =>
      obtain ⟨ws, e, k⟩ := h
      exact ⟨ws, e, fun J ρ2 H2 t R2 i => k J ρ2 H2 (s.trans t) R2 i⟩
theorem ItG.bind {G : Gx} {B : List Addr} {R : It → Hp → Prop} {ρ : Nat → Addr} {S : Sto} {H : Hp} {α β : Type} {Rp : RpT α β} {m : M α} {f : α → M U} (h : ItG G B R ρ S H (M.bind m f S)) :
    FinG G B Rp (fun b H1 => ∃ ρ1 S1 a, m S = .ok a S1 ∧ RelS G B ρ1 S1 H1 ∧ Stp ρ S H ρ1 S1 H1 ∧ Rp B ρ1 S1 H1 a b ∧ ItG G B R ρ1 S1 H1 (f a S1)) ρ S H (m S) := by
  unfold M.bind at h
  cases e : m S with
  | ok a S1 =>
    rw [e] at h
    exact fun b ρ1 H1 t R P => ⟨ρ1, S1, a, rfl, R, t, P, h.later t⟩
  | err _ _ _ => rw [e] at h; exact h.elim
  | bad => rw [e] at h; exact h.elim
theorem PI.imp {X : Cx} {tg e : Expr} {t t' : TI} (h : PI X tg e t) (k : ∀ σ H R, t' σ H R → t σ H R) : PI X tg e t' := ⟨fun pins s σ H R I q => h.run pins s σ H R I (k _ _ _ q)⟩
theorem PI.or {X : Cx} {tg e : Expr} {t t' : TI} (h : PI X tg e t) (h' : PI X tg e t') : PI X tg e (fun σ H R => t σ H R ∨ t' σ H R) := ⟨fun pins s σ H R I q => by
  rcases q with q | q
  · exact h.run pins s σ H R I q
  · exact h'.run pins s σ H R I q⟩
section
variable {G : Gx} {X : Cx} {N : List Str} {sc : Scope} {B B1 : List Addr} {ρ ρ1 : Nat → Addr} {S S1 : Sto} {H H1 : Hp}
theorem stay_B (h : ∀ b ∈ B1, b ∈ B ∨ H b = none) : Stay G (Zf B ρ S) (Zf B1 ρ S) H H where
  tup := fun _ _ q => q
  oth := fun a o z e => ⟨e, z.1, fun hb => by
    rcases h a hb with q | q
    · exact z.2 q
    · rw [q] at e; cases e⟩
theorem RelS.bsub {B0 : List Addr} (R : RelS G B ρ S H) (h : ∀ b ∈ B0, b ∈ B) : RelS G B0 ρ S H where
  at_ := fun n o e => (R.at_ n o e).stay (stay_B fun b hb => .inl (h b hb)) rfl
  inj := R.inj
  bs := fun b hb => R.bs b (h b hb)
  nb := fun n o e hb => R.nb n o e (h _ hb)
/-- what stood under B stands later under B1 -/
theorem stay_later (R : RelS G B ρ S H) (s : Stp ρ S H ρ1 S1 H1) (h : ∀ b ∈ B1, b ∈ B ∨ H b = none) : Stay G (Zf B ρ S) (Zf B1 ρ1 S1) H H1 where
  tup := (s.stay R).tup
  oth := fun a o z e => ⟨(s.keep a o e z.1).1, (s.keep a o e z.1).2, fun hb => by
    rcases h a hb with q | q
    · exact z.2 q
    · rw [q] at e; cases e⟩
theorem it_lst {ws : List W} {vs : List V} {a : Addr} (R : RelS G B ρ S H) (h : Rd H a (.lst vs)) (z : ¬ Mu ρ S a) (r : Reps G (Zf B ρ S) H ws vs) : ItOk G (Itl G.K a) ws B ρ S H := by
  intro B1 ρ1 S1 H1 hB s R1 i
  have st := stay_later (B1 := B1) R s hB
  have h1 : SqL G.K H1 a vs := by
    rcases h with h | ⟨o, h⟩
    · exact .inl (.inl (s.keep a _ h z).1)
    · exact .inl (.inr ⟨o, (s.keep a _ h z).1⟩)
  refine ⟨fun e => ⟨vs, h1, by rw [r.length, e]; exact Nat.le_refl _⟩, fun w hw => ?_⟩
  obtain ⟨v, hv, rv⟩ := (Reps.stay st r).get hw
  refine ⟨⟨vs, v, h1, hv⟩, fun x H2 y => ?_⟩
  obtain ⟨rfl, y⟩ := y
  have e := y vs h1
  rw [hv] at e; cases e
  exact ⟨fun _ _ q => q, rv⟩
theorem it_tup {ws : List W} {vs : List V} {a : Addr} (R : RelS G B ρ S H) (h : SqT G.K H a vs) (r : Reps G (Zf B ρ S) H ws vs) : ItOk G (Itt G.K a) ws B ρ S H := by
  intro B1 ρ1 S1 H1 hB s R1 i
  have st := stay_later (B1 := B1) R s hB
  have h1 : SqT G.K H1 a vs := st.tup _ _ h
  refine ⟨fun e => ⟨vs, h1, by rw [r.length, e]; exact Nat.le_refl _⟩, fun w hw => ?_⟩
  obtain ⟨v, hv, rv⟩ := (Reps.stay st r).get hw
  refine ⟨⟨vs, v, h1, hv⟩, fun x H2 y => ?_⟩
  obtain ⟨rfl, y⟩ := y
  have e := y vs h1
  rw [hv] at e; cases e
  exact ⟨fun _ _ q => q, rv⟩
theorem it_str {s : Str} : ItOk G (Its s) (strL s) B ρ S H := by
  intro B1 ρ1 S1 H1 hB st R1 i
  have hl : (strL s).length = s.cps.size := by simp [strL]
  refine ⟨fun e => by show s.cps.size ≤ i; omega, fun w hw => ?_⟩
  have hi : i < s.cps.size := by
    have := (List.getElem?_eq_some_iff.mp hw).1
    omega
  refine ⟨hi, fun x H2 y => ?_⟩
  obtain ⟨rfl, c, ec, rfl⟩ := y
  refine ⟨fun _ _ q => q, ?_⟩
  have : w = .str ⟨#[c]⟩ := by
    simp only [strL, List.getElem?_map, Array.getElem?_toList, ec, Option.map_some, Option.some.injEq] at hw
    exact hw.symm
  subst this
  simp [Rep]
theorem it_rng {lo : Int} {n : Nat} {ws : List W} (e : ws = (List.range n).map fun (i : Nat) => W.int (lo + (i : Int))) : ItOk G (Itr lo n) ws B ρ S H := by
  intro B1 ρ1 S1 H1 hB st R1 i
  subst e
  refine ⟨fun e => by show n ≤ i; simp at e; omega, fun w hw => ?_⟩
  have hi : i < n := by
    have := (List.getElem?_eq_some_iff.mp hw).1
    simpa using this
  refine ⟨hi, fun x H2 y => ?_⟩
  obtain ⟨rfl, rfl⟩ := y
  refine ⟨fun _ _ q => q, ?_⟩
  have : w = .int (lo + (i : Int)) := by
    simp only [List.getElem?_map, List.getElem?_range hi, Option.map_some, Option.some.injEq] at hw
    exact hw.symm
  subst this
  simp [Rep]
/-- a place set aside -/
theorem RelS.park {n : Nat} {o : MO} (R : RelS G B ρ S H) (e : S[n]? = some (some o)) : RelS G (ρ n :: B) ρ (S.set n none) H ∧ Stay G (Zf B ρ S) (Zf (ρ n :: B) ρ (S.set n none)) H H := by
  have st : Stay G (Zf B ρ S) (Zf (ρ n :: B) ρ (S.set n none)) H H := ⟨fun _ _ q => q, fun a o' z q => ⟨q, ((Stp.kill R n).keep a o' q z.1).2, fun hb => by
    rcases List.mem_cons.mp hb with h | h
    · exact z.1 ⟨n, o, e, h.symm⟩
    · exact z.2 h⟩⟩
  refine ⟨⟨fun k o' h => (R.at_ k o' (getElem?_set_none h).2).stay st rfl, fun k m o' o2 h h2 => R.inj k m _ _ (getElem?_set_none h).2 (getElem?_set_none h2).2, fun b hb => ?_, fun k o' h hb => ?_⟩, st⟩
  · rcases List.mem_cons.mp hb with h | h
    · rw [h]; exact R.mu_some ⟨n, o, e, rfl⟩
    · exact R.bs b h
  · obtain ⟨h1, h2⟩ := getElem?_set_none h
    rcases List.mem_cons.mp hb with q | q
    · exact h1 (R.inj k n _ _ h2 e q)
    · exact R.nb k o' h2 q
/-- a value that is walked -/
theorem pi_seq {tg e : Expr} {m : Lo → M U} (x0 : XOk G X N sc) (h : PE X e (rdE G m)) : PI X tg e (rdI G m) := by
  refine PI.imp (PI.or (pi_list h) (PI.or (pi_tup h) (pi_str h))) ?_
  rw [x0.kk]
  rintro σ H R ⟨B, ρ, S, τ, R0, L, q⟩
  cases e1 : m τ S with
  | err _ _ _ => rw [e1] at q; exact q.elim
  | bad => rw [e1] at q; exact q.elim
  | ok u S' =>
    rw [e1] at q
    cases u with
    | p w =>
      obtain ⟨ws, e2, q⟩ := q
      cases w <;> simp only [itemsW, Option.some.injEq, reduceCtorEq] at e2
      · subst e2
        refine .inr (.inr ⟨B, ρ, S, τ, R0, L, ?_⟩)
        rw [e1]
        intro v ρ' H' s R' r
        simp only [RepU, Rep] at r
        subst r
        exact ⟨_, rfl, q _ ρ' H' s R' it_str⟩
      · subst e2
        refine .inr (.inl ⟨B, ρ, S, τ, R0, L, ?_⟩)
        rw [e1]
        intro v ρ' H' s R' r
        simp only [RepU, Rep] at r
        obtain ⟨a, vs, rfl, h1, h2⟩ := r
        exact ⟨a, rfl, ⟨vs, h1⟩, q _ ρ' H' s R' (it_tup R' h1 h2)⟩
      · subst e2
        refine .inl ⟨B, ρ, S, τ, R0, L, ?_⟩
        rw [e1]
        intro v ρ' H' s R' r
        simp only [RepU, Rep] at r
        obtain ⟨a, vs, rfl, h1, z, h2⟩ := r
        exact ⟨a, rfl, ⟨vs, .inl h1⟩, q _ ρ' H' s R' (it_lst R' h1 z.1 h2)⟩
    | loc n =>
      obtain ⟨ws, e2, q⟩ := q
      refine .inl ⟨B, ρ, S, τ, R0, L, ?_⟩
      rw [e1]
      intro v ρ' H' s R' r
      have ev := r.2
      subst ev
      obtain ⟨vs, h1, h2⟩ := R'.at_ n _ e2
      obtain ⟨Rk, st⟩ := R'.park e2
      exact ⟨_, rfl, ⟨vs, .inl (.inl h1)⟩, q _ ρ' H' s R' (it_lst Rk (.inl h1) (fun ⟨k, o, e, m⟩ => by
        obtain ⟨d1, d2⟩ := getElem?_set_none e
        exact d1 (R'.inj k n _ _ d2 e2 m)) (Reps.stay st h2))⟩
end
end Pm
end
section
set_option Elab.async false
set_option linter.all false
set_option maxHeartbeats 1000000
/-! Pm8: the check of small expressions against the text, and what a context knows. -/
namespace Pm
open PySem PySem.Spec PyProof.Rows L2

/-- what is told of a program, ahead of its proof -/
structure Ds where
  fname : String → Option Str
  meth : String → Option (String × Str)
  cname : String → Option Str
  shp : List (String × Nat × List Str × List (Sum Nat Dfl))
  free : List Str
  flds : List Str
  tys : List String
  globs : List String

def bopOf : Pr → Option Operator
  | .add => some .Add | .sub => some .Sub | .mul => some .Mult | .fdiv => some .FloorDiv | .mod => some .Mod | .pow => some .Pow
  | _ => none
def copOf : Pr → Option CmpOp
  | .eq => some .Eq | .ne => some .NotEq | .lt => some .Lt | .le => some .LtE | .gt => some .Gt | .ge => some .GtE | .in_ => some .In | .notin => some .NotIn
  | _ => none
def bltOf : Pr → Option String
  | .len => some "len" | .all => some "all" | .any => some "any" | .sum => some "sum" | .abs => some "abs" | .min2 => some "min" | .max2 => some "max" | .divmod => some "divmod"
  | _ => none
def typOf : Pr → Option String
  | .tuple => some "tuple" | .list _ => some "list"
  | _ => none
def isSetE : Expr → Bool
  | .Set _ _ _ => true
  | _ => false
def isSuperN : Expr → Bool
  | .Name _ _ => false
  | _ => true
def gloB (sc : Scope) (x : Str) : Bool := match sc.names.lookup x with
  | some .globalImplicit => true
  | _ => false
def tyName (D : Ds) (sc : Scope) (t : String) : Expr → Bool
  | .Name x _ => decide (x = Str.ofString t) && gloB sc x && D.tys.contains t
  | _ => false
def tyNames (D : Ds) (sc : Scope) : List String → List Expr → Bool
  | [], [] => true
  | t :: ts, e :: es => tyName D sc t e && tyNames D sc ts es
  | _, _ => false
def eqOp (a b : Operator) : Bool := decide (a.ctorIdx = b.ctorIdx)
def eqCop (a b : CmpOp) : Bool := decide (a.ctorIdx = b.ctorIdx)
/-- the parts of an expression that is such a primitive -/
def argsB (D : Ds) (sc : Scope) : Pr → Expr → Option (List Expr)
  | p, .BinOp x op y _ => (match bopOf p with
    | some o => if eqOp o op then some [x, y] else none
    | none => none)
  | p, .Compare x [op] [y] _ => (match copOf p with
    | some o => if eqCop o op && !isSetE y then some [x, y] else none
    | none => (match p, op, y with
      | .isn, .Is, .Constant .none _ _ => some [x]
      | .notn, .IsNot, .Constant .none _ _ => some [x]
      | .isb b, .Is, .Constant (.bool c) _ _ => if b == c then some [x] else none
      | _, _, _ => none))
  | .neg, .UnaryOp .USub x _ => some [x]
  | .tup, .Tuple es _ _ => if es.all (fun e => !isStar e) && decide (es.length ≤ 1000) then some es else none
  | .lst _, .List es _ => if es.all (fun e => !isStar e) && decide (es.length ≤ 1000) then some es else none
  | .ix, .Subscript x y _ => if isSlice y then none else some [x, y]
  | p, .Call (.Name x _) (e :: es) [] _ => if gloB sc x && D.free.contains x && (e :: es).all (fun e => !isStar e) then
      (match p with
      | .isi ts => if decide (x = "isinstance") then (match es with
          | [.Tuple cs _ _] => if tyNames D sc ts cs && cs.all (fun e => !isStar e) && decide (ts.length ≤ 1000) then some [e] else none
          | [c] => (match ts with
            | [t] => if tyName D sc t c then some [e] else none
            | _ => none)
          | _ => none) else none
      | p => (match bltOf p with
        | some n => if decide (x = Str.ofString n) then some (e :: es) else none
        | none => (match typOf p with
          | some n => if decide (x = Str.ofString n) then some (e :: es) else none
          | none => none))) else none
  | _, _ => none
/-- more primitives -/
def argsX (D : Ds) (sc : Scope) : Pr → Expr → Option (List Expr)
  | .sl false false, .Subscript o (.Slice none none none _) _ => some [o]
  | .sl true false, .Subscript o (.Slice (some l) none none _) _ => some [o, l]
  | .sl false true, .Subscript o (.Slice none (some h) none _) _ => some [o, h]
  | .sl true true, .Subscript o (.Slice (some l) (some h) none _) _ => some [o, l, h]
  | .dct0, .Dict [] [] _ => some []
  | .rev, .Subscript o (.Slice none none (some (.UnaryOp .USub (.Constant (.int 1) _ _) _)) _) _ => some [o]
  | .frz, .Name x pos => some [.Name x pos]
  | _, _ => none
/-- the values of an f-string -/
def fsArgs : List (Option Str) → List Expr → Option (List Expr)
  | [], [] => some []
  | some z :: ps, .Constant (.str s) _ _ :: es => if decide (s = z) then fsArgs ps es else none
  | none :: ps, .FormattedValue e c none _ :: es => if decide (c = -1) then (fsArgs ps es).map (e :: ·) else none
  | _, _ => none
def rgArgs (D : Ds) (sc : Scope) : Expr → Option (List Expr)
  | .Call (.Name y _) [a] [] _ => if decide (y = "range") && gloB sc y && D.free.contains y && !isStar a then some [a] else none
  | .Call (.Name y _) [a, b] [] _ => if decide (y = "range") && gloB sc y && D.free.contains y && !isStar a && !isStar b then some [a, b] else none
  | _ => none
def argsY (D : Ds) (sc : Scope) : Pr → Expr → Option (List Expr)
  | .repr, .Call (.Name x _) [e] [] _ => if decide (x = "repr") && gloB sc x && D.free.contains x && !isStar e then some [e] else none
  | .str, .Call (.Name x _) [e] [] _ => if decide (x = "str") && gloB sc x && D.free.contains x && !isStar e then some [e] else none
  | .int, .Call (.Name x _) [e] [] _ => if decide (x = "int") && gloB sc x && D.free.contains x && !isStar e then some [e] else none
  | .fstr ps, .JoinedStr es _ => if decide (es.length ≤ 1000) && decide (2 ≤ es.length) then fsArgs ps es else none
  | .lrange _, .Call (.Name x _) [e] [] _ => if decide (x = "list") && gloB sc x && D.free.contains x && !isStar e then rgArgs D sc e else none
  | .trange, .Call (.Name x _) [e] [] _ => if decide (x = "tuple") && gloB sc x && D.free.contains x && !isStar e then rgArgs D sc e else none
  | _, _ => none
def argsOf (D : Ds) (sc : Scope) (p : Pr) (e : Expr) : Option (List Expr) := match argsB D sc p e with
  | some as => some as
  | none => (match argsX D sc p e with
    | some as => some as
    | none => argsY D sc p e)
/-- the parts of what is walked -/
def itArgs (D : Ds) (sc : Scope) : Option Pr → Expr → Expr → Option (List Expr)
  | none, _, e => some [e]
  | some .range1, _, .Call (.Name x _) [a] [] _ => if decide (x = "range") && gloB sc x && D.free.contains x && !isStar a then some [a] else none
  | some .range2, _, .Call (.Name x _) [a, b] [] _ => if decide (x = "range") && gloB sc x && D.free.contains x && !isStar a && !isStar b then some [a, b] else none
  | some .zip, .Tuple _ _ _, .Call (.Name x _) [a, b] [] _ => if decide (x = "zip") && gloB sc x && D.free.contains x && !isStar a && !isStar b then some [a, b] else none
  | some .enum, .Tuple _ _ _, .Call (.Name x _) [a] [] _ => if decide (x = "enumerate") && gloB sc x && D.free.contains x && !isStar a then some [a] else none
  | _, _, _ => none
def methN : Pr → Option String
  | .join => some "join"
  | .split => some "split"
  | .find => some "find"
  | .index => some "index"
  | .count => some "count"
  | _ => none
/-- the object and the parts of a built-in method's call -/
def methOf : Pr → Expr → Option (Expr × List Expr)
  | .append, .Call (.Attribute o m apos) [e] [] pos => if decide (m = "append") && notSuper o && !isStar e && (apos.endLine == pos.line) then some (o, [e]) else none
  | .extend, .Call (.Attribute o m apos) [e] [] pos => if decide (m = "extend") && notSuper o && !isStar e && (apos.endLine == pos.line) then some (o, [e]) else none
  | p, .Call (.Attribute o m apos) [e] [] pos => (match methN p with
    | some n => if decide (m = Str.ofString n) && notSuper o && !isStar e && (apos.endLine == pos.line) then some (o, [e]) else none
    | none => none)
  | _, _ => none
def constB : W → Const → Bool
  | .non, .none => true
  | .bl a, .bool b => a == b
  | .int a, .int b => decide (a = b)
  | .str a, .str b => decide (a = b)
  | _, _ => false
mutual
def chk (D : Ds) (N : List Str) (sc : Scope) : Ex → Expr → Bool
  | .var i, .Name x _ => decide (N[i]? = some x) && visB sc x && !(x == "__debug__") && !(x == "__classdict__")
  | .cst w, .Constant c _ _ => constB w c
  | .glob x, .Name y _ => decide (y = Str.ofString x) && gloB sc y && D.globs.contains x && !(y == "__debug__")
  | .pr p es, e => (match argsOf D sc p e with
    | some as => chks D N sc es as
    | none => false)
  | .and a b, .BoolOp .And (x :: y :: r) pos => chk D N sc a x && (match r with
    | [] => chk D N sc b y
    | _ => chk D N sc b (.BoolOp .And (y :: r) pos))
  | .or a b, .BoolOp .Or (x :: y :: r) pos => chk D N sc a x && (match r with
    | [] => chk D N sc b y
    | _ => chk D N sc b (.BoolOp .Or (y :: r) pos))
  | .not a, .UnaryOp .Not x _ => chk D N sc a x
  | .ite c a b, .IfExp x y z _ => chk D N sc c x && chk D N sc a y && chk D N sc b z
  | .chain p q a b c, .Compare x [o1, o2] [y, z] _ => (match copOf p, copOf q with
    | some p1, some q1 => eqCop p1 o1 && eqCop q1 o2 && !isSetE y && !isSetE z && chk D N sc a x && chk D N sc b y && chk D N sc c z
    | _, _ => false)
  | .chain3 p q r a b c d, .Compare x [o1, o2, o3] [y, z, v] _ => (match copOf p, copOf q, copOf r with
    | some p1, some q1, some r1 => eqCop p1 o1 && eqCop q1 o2 && eqCop r1 o3 && !isSetE v && chk D N sc a x && chk D N sc b y && chk D N sc c z && chk D N sc d v
    | _, _, _ => false)
  | .comp _ own tg ip its cond elt, .ListComp e [⟨t, i, ifs, 0⟩] scope _ => blkC N sc scope own && !isSetE i && chkT N scope tg t && decide (ifs.length ≤ 1) && decide (∀ k ∈ tgS tg, k ∈ own.map (·.2)) && (match itArgs D sc ip t i with
      | some as => chks D N sc its as
      | none => false) && chks D N scope cond ifs && chk D N scope elt e
  | .call f bd es, .Call (.Name x _) args kws _ => decide (D.fname f = some x) && gloB sc x && !(x == "__debug__") && kws.all (fun k => k.arg.isSome) && D.shp.contains (f, args.length, kws.filterMap (·.arg), bd) &&
      args.all (fun e => !isStar e) && chks D N sc es (args ++ kws.map (·.value))
  | .meth p o es, e => (match methOf p e with
    | some (eo, as) => chk D N sc o eo && chks D N sc es as
    | none => false)
  | .mcall C m f o bd es, .Call (.Attribute eo m' apos) args kws pos => (apos.endLine == pos.line) && decide (args.length + kws.length < 25) && decide (m = m') && decide (D.meth f = some (C, m)) && notSuper eo && kws.all (fun k => k.arg.isSome) && D.shp.contains (f, args.length, kws.filterMap (·.arg), bd) &&
      args.all (fun e => !isStar e) && chk D N sc o eo && chks D N sc es (args ++ kws.map (·.value))
  | .new C bd es, .Call (.Name x _) args kws _ => decide (D.cname C = some x) && gloB sc x && !(x == "__debug__") && kws.all (fun k => k.arg.isSome) && D.shp.contains (C, args.length, kws.filterMap (·.arg), bd) &&
      args.all (fun e => !isStar e) && chks D N sc es (args ++ kws.map (·.value))
  | .fld o f, .Attribute eo f' _ => decide (f = f') && D.flds.contains f && notSuper eo && chk D N sc o eo
  | .nev, _ => true
  | _, _ => false
def chks (D : Ds) (N : List Str) (sc : Scope) : List Ex → List Expr → Bool
  | [], [] => true
  | a :: as, e :: es => chk D N sc a e && chks D N sc as es
  | _, _ => false
end
end Pm
end
section
set_option Elab.async false
set_option linter.all false
set_option maxHeartbeats 2000000
/-! Pm8g: a def's promise where nothing is being shown (no repr under way). -/
namespace Pm
open PySem PySem.Spec PyProof.Rows L2
structure FnG (P : Program) (w : World) (K : PySem.W.Frag) (mg : Str → Option Value) (base : Heap) (k : Nat) (f : Addr) (fd : FuncData) (ps : List Str) (sp : Sp) : Prop where
  len : ∀ vs H Q E, sp vs H Q E → vs.length = ps.length
  run : ∀ (A : Around) (outer : List Env) (s : Shared) (H : Hp) (args : Args) (us : List Value) (vs : List V) (Q : VK) (E : XK), A.guards = some [] → Room k A →
    Env0 P w K mg base A outer s H → BindsTo s fd args (ps.zip us) → Vals vs us → sp vs H Q E → codeAny (model P w) A (.call (.ref f) args) (CR CX0 outer P w H s Q E) s
section
variable {X : Cx} {k n : Nat} {f C : Addr} {fd : FuncData} {ps ks : List Str} {sp : Sp} {g : List Value → List Value → List Value} {gV : List V → List V → List V}
theorem run_fnG {pins : List (Addr × Obj)} {σ : L2.St} {H : Hp} {s : Shared} {Q : VK} {us ws : List Value} {vs zs : List V} (gd : X.A.guards = some []) (F : FnG X.prog X.w X.K X.mg X.base k f fd ps sp) (hr : Room k X.A) (hb : KBn X.K fd ps n ks g gV)
    (I : Inv X pins σ H s) (r : Vals vs us) (rz : Vals zs ws) (l1 : vs.length = n) (l2 : zs.length = ks.length) (h : sp (gV vs zs) H Q E0) : wpAny (model X.prog X.w) X.A (call (.ref f) us (ks.zip ws)) (EP X pins σ Q) X.xe s := by
  refine wpAny_call ?_
  refine codeAny_mono (F.run X.A X.stack s H _ _ _ Q E0 gd hr I.env0 (hb.to s us ws I.kIn (by rw [← r.length, l1]) (by rw [← rz.length, l2])) (hb.rel r rz) h) ?_
  intro res s' hq
  match res, hq with
  | .error e, hq => exact pass0 pins σ H s e s' I hq
  | .ok (.ret u), hq => exact I.after hq
  | .ok .next, hq => exact (show False from hq).elim
  | .ok .brk, hq => exact (show False from hq).elim
  | .ok .cont, hq => exact (show False from hq).elim
theorem guards_make {A : Around} (gd : A.guards = some []) (C : Addr) (us : List Value) (kw : List (Str × Value)) : (A.under (.builtin "type.__call__" ⟨.ref C :: us, kw⟩)).guards = some [] := by
  have e : (Code.builtin "type.__call__" ⟨.ref C :: us, kw⟩).guards = [] := by
    have : (Code.builtin "type.__call__" ⟨.ref C :: us, kw⟩).isGuard = false := by
      show guardIds.contains "type.__call__" = false
      decide +kernel
    simp [Code.guards, this]
  simp [Around.under, pushGuards, e, gd]
theorem run_makeG {pins : List (Addr × Obj)} {σ : L2.St} {H : Hp} {s : Shared} {Q : VK} {us ws : List Value} {vs zs : List V} (gd : X.A.guards = some []) (M : Mk X.K C f) (F : FnG X.prog X.w X.K X.mg X.base k f fd ps sp) (hr : Room (k + 1) X.A)
    (hb : KBn X.K fd ps (n + 1) ks g gV) (I : Inv X pins σ H s) (r : Vals vs us) (rz : Vals zs ws) (l1 : vs.length = n) (l2 : zs.length = ks.length)
    (h : ∀ x dx, H x = none → H dx = none → dx ≠ x → sp (gV (.ref x :: vs) zs) (upd (upd H dx (.own x)) x (.ins C dx [])) (fun v H2 => v = .non ∧ Q (.ref x) H2) E0) :
    wpAny (model X.prog X.w) X.A (call (.ref C) us (ks.zip ws)) (EP X pins σ Q) X.xe s := by
  have J := Inv.made (C := C) I
  have nr : Vals (V.ref (s.heap.objs.size + 1) :: vs) (Value.ref (s.heap.objs.size + 1) :: us) := .cons rfl r
  have q0 := h (s.heap.objs.size + 1) s.heap.objs.size (I.hok.fresh (Nat.le_succ _)) (I.hok.fresh (Nat.le_refl _)) (Nat.ne_of_lt (Nat.lt_succ_self _))
  refine wpAny_call (make_map (f := f) I.kIn M.makes M.init (beq_iff_eq.mp M.fn) ?_)
  refine codeAny_mono (F.run _ X.stack _ _ _ _ _ _ E0 (guards_make gd C us (ks.zip ws)) (hr.make C us (ks.zip ws)) (J.env0.make C us (ks.zip ws)) (hb.to _ _ ws J.kIn (by rw [List.length_cons, ← r.length, l1]) (by rw [← rz.length, l2])) (hb.rel nr rz) q0) ?_
  intro res s' hq
  match res, hq with
  | .error e, hq => exact pass0 pins σ _ _ e s' J hq
  | .ok (.ret u), hq =>
    obtain ⟨v, H', I3, rv, ev, q3⟩ := J.after hq
    subst ev
    exact ⟨rv, V.ref (s.heap.objs.size + 1), H', I3, rfl, q3⟩
  | .ok .next, hq => exact (show False from hq).elim
  | .ok .brk, hq => exact (show False from hq).elim
  | .ok .cont, hq => exact (show False from hq).elim
end
/-- the promise by the body -/
theorem FunD.okG {P : Program} {w : World} {K : PySem.W.Frag} {mg : Str → Option Value} {base : Heap} {x qual : Str} {params : Arguments} {body : List Stmt} {scope : Scope} {dvs : List V} {kws : List (Str × V)} {f : Addr} {fd : FuncData} {N ps : List Str} {k : Nat} {sp : Sp}
    (F : FunD K x qual params body scope dvs kws f fd) (S : FnScope N ps scope) (len : ∀ vs H Q E, sp vs H Q E → vs.length = ps.length)
    (hbody : ∀ (cdv : Value) (A : Around) (outer : List Env) (s : Shared) (H : Hp) (vs : List V) (Q : VK) (E : XK), A.guards = some [] → Room k (A.deeper (envOfC qual scope s.heap.objs.size f cdv)) → sp vs H Q E →
      ∃ t, PSs (cxOf CX0 P w K mg base N qual scope f cdv A outer s H E) body t ∧ t { nx := fun _ H' => Q .non H', rt := Q } (start N vs) H) : FnG P w K mg base (k + 1) f fd ps sp := by
  obtain ⟨oc, od, dV, kV, doc, pm, an, cdv, ct, osl, rfl, lk, hcd, _, _⟩ := F.ex
  refine ⟨len, ?_⟩
  intro A outer s H args us vs Q E gd hr e0 hb r hsp
  have keep : ∀ b o, base.get? b = some o → s.heap.get? b = some o := fun b o e => (e0.bs b o e).1
  have KX : K.In s.heap := e0.mod.kin.keeps keep
  have kinds : ∀ y ∈ ps.zip us, scope.names.lookup y.1 = some .local ∨ (scope.names.lookup y.1 = some .cell ∧ ((cellsFrom (s.heap.objs.size + 1) scope.names []).lookup y.1).isSome = true) := by
    rintro ⟨n, v⟩ hy
    rcases S.par n (List.of_mem_zip hy).1 with q | q
    · exact Or.inl q
    · exact Or.inr ⟨q, PySem.W.cellsFrom_some _ _ _ (Or.inl q)⟩
  refine codeAny_call_function hr.depth (KX _ _ lk) rfl S.co S.gen rfl (PySem.W.codeRec_of KX hcd) (hb _ _ _ _ (wpAny_newFunctionEnv_cells S.kind kinds ?_))
  intro env he s1 x
  subst he
  refine ⟨(e0.mod.nolimit.keeps keep).keeps x.toInCall.keep, codeAny_func ?_⟩
  obtain ⟨t, ht, hq⟩ := hbody cdv A outer s H vs Q E gd (hr.deeper _) hsp
  have I : Inv (cxOf CX0 P w K mg base N qual scope f cdv A outer s H E) [] (start N vs) H s1 := inv_start S hr.hd e0 (len _ _ _ _ hsp) r x
  refine wpAny_mono (ht.run [] s1 (start N vs) H _ I hq) ?_ fun e s' hs => hs
  intro fl s' hs
  match fl, hs with
  | .ret u, ⟨v, σ', H', J, rv, q⟩ => exact ⟨v, H', J.os, J.bare, J.base, J.hok, rv, q⟩
  | .next, ⟨σ', H', J, q⟩ => exact ⟨V.non, H', J.os, J.bare, J.base, J.hok, rfl, q⟩
  | .brk, ⟨_, _, _, q⟩ => exact (show False from q).elim
  | .cont, ⟨_, _, _, q⟩ => exact (show False from q).elim
/-! ### the law's own call -/
section
variable {P : Program} {w : World} {K : PySem.W.Frag} {mg mb : Str → Option Value} {k : Nat} {fa a : Addr} {fd : FuncData} {x : Str} {sp : Sp} {s1 : Shared} {vs : List Value} {ns : List Int}
abbrev LawEnd (s1 : Shared) (r : Except Value Flow) (s' : Shared) : Prop := r = .ok (.ret (.bool true)) ∧ OldK s1.heap s'.heap ∧ s'.os = s1.os ∧ AllBare s'.gens
/-- from an abstract heap in which nothing but the script may be tracked -/
theorem law_core {H : Hp} (KX : K.In s1.heap) (hns : s1.heap.Ns mainGlobals mg) (hb : s1.heap.Ns builtinsNs mb) (hbb : ∀ x : Str, x ≠ "__name__" → mb x = bootBuiltins x) (hlim : s1.heap.NoLimit) (hg : s1.gens = #[])
    (ha : s1.heap.get? a = some { cls := .type "list", data := .seq vs.toArray }) (hr : Room k callerA)
    (F : ∀ base : Heap, K.In base → base.Ns mainGlobals mg → FnG P w K mg base k fa fd [x] sp) (hbind : ∀ (s : Shared) (u : Value), BindsTo s fd ⟨[u], []⟩ [(x, u)])
    (hS : sp [.ref a] H (fun v _ => v = .bl true) fun _ _ _ => False) (hO : Only H) (hok : HOk P w H s1.heap) (hA : ∀ b, H b ≠ none → b = a) (hK : H a ≠ none → K.lookup a = none) :
    codeAny (model P w) callerA (.call (.ref fa) ⟨[.ref a], []⟩) (LawEnd s1) s1 := by
  have nota : ∀ {b : Addr} {o : Obj}, s1.heap.get? b = some o → b ≠ a → (hidT s1.heap H).get? b = some o := fun {b o} e n => hidT_get e (by
    cases q : H b with
    | none => rfl
    | some u => exact absurd (hA b (by rw [q]; simp)) n)
  have isa : ∀ {b : Addr} {o : Obj} {es : Array DictEntry} {ep : Nat}, s1.heap.get? b = some o → o.data = .dict es ep → b ≠ a := by
    rintro b o es ep e d rfl
    rw [ha] at e
    cases e
    cases (show Data.seq vs.toArray _ = Data.dict es ep from d)
  have nsK : ∀ {b : Addr} {m : Str → Option Value}, s1.heap.Ns b m → (hidT s1.heap H).Ns b m := fun {b m} ⟨o, es, ep, e, d, r⟩ => ⟨o, es, ep, nota e (isa e d), d, r⟩
  have KB : K.In (hidT s1.heap H) := fun b o e => by
    cases q : H b with
    | none => exact hidT_get (KX b o e) q
    | some u =>
      have e' : b = a := hA b (by rw [q]; simp)
      subst e'
      rw [hK (by rw [q]; simp)] at e
      cases e
  obtain ⟨mc, l1, l2⟩ := hlim
  have hM : Mod K mg (hidT s1.heap H) := ⟨KB, nsK hns, ⟨mb, nsK hb, hbb⟩, mc, nsK l1, l2⟩
  have e0 : Env0 P w K mg (hidT s1.heap H) callerA [] s1 H := ⟨rfl, hM, fun b o e => of_hidT e, Nat.le_of_eq (hidT_size _ _), trivial, fun b hb => absurd (show b ∈ ([] : List Addr) from hb) (by simp), hok, .of_eq hg⟩
  refine codeAny_mono ((F _ KB (nsK hns)).run callerA [] s1 H ⟨[.ref a], []⟩ [.ref a] [.ref a] _ _ rfl hr e0 (hbind s1 (.ref a)) (.cons rfl .nil) hS) ?_
  intro r s' h
  match r, h with
  | .error e, h => exact (show False from h).elim
  | .ok .next, h => exact (show False from h).elim
  | .ok .brk, h => exact (show False from h).elim
  | .ok .cont, h => exact (show False from h).elim
  | .ok (.ret u), ⟨v, H', os, bare, un, hok', rv, q⟩ =>
    obtain rfl : v = .bl true := q
    obtain rfl : u = Value.bool true := rv
    refine ⟨rfl, OldK.of_keep fun b o e => ?_, os, bare⟩
    cases q : H b with
    | none => exact un.keep b o e q (fun z => absurd (show b ∈ ([] : List Addr) from z) (by simp)) (by simp)
    | some u =>
      rcases hO b with z | ⟨ob, xs, z⟩
      · rw [q] at z
        cases z
      · have e1 := (hok b _ z).1
        have e2 := (hok' b _ (un.frzs b ob _ z)).1
        rw [e] at e1
        cases e1
        exact e2
theorem law_callG (KX : K.In s1.heap) (hns : s1.heap.Ns mainGlobals mg) (hb : s1.heap.Ns builtinsNs mb) (hbb : ∀ x : Str, x ≠ "__name__" → mb x = bootBuiltins x) (hlim : s1.heap.NoLimit) (hg : s1.gens = #[])
    (ha : s1.heap.get? a = some { cls := .type "list", data := .seq vs.toArray }) (hi : IntsAre vs ns) (hl : ns.length ≤ sizeLine) (hr : Room k callerA)
    (F : ∀ base : Heap, K.In base → base.Ns mainGlobals mg → FnG P w K mg base k fa fd [x] sp) (hbind : ∀ (s : Shared) (u : Value), BindsTo s fd ⟨[u], []⟩ [(x, u)])
    (hsp : ∀ H : Hp, Only H → SqL K H a (ns.map V.int) → sp [.ref a] H (fun v _ => v = .bl true) fun _ _ _ => False) :
    codeAny (model P w) callerA (.call (.ref fa) ⟨[.ref a], []⟩) (LawEnd s1) s1 := by
  have rv := vals_ints hi
  have lv := hi.length
  have ob : Obj := { cls := .type "list", data := .seq vs.toArray }
  cases hk : K.lookup a with
  | some o =>
    have e := KX a o hk
    rw [ha] at e
    cases e
    have hO : Only (fun _ => none) := fun _ => .inl rfl
    exact law_core (H := fun _ => none) KX hns hb hbb hlim hg ha hr F hbind (hsp _ hO (.inr ⟨_, vs.toArray, _, hk, rfl, rfl, rfl, by rw [List.size_toArray, lv]; exact hl, by simpa using rv⟩)) hO
      (fun b u z => by cases (show (none : Option HO) = some u from z)) (fun b z => absurd rfl z) fun z => absurd rfl z
  | none =>
    let H : Hp := fun b => if b = a then some (.frz { cls := .type "list", data := .seq vs.toArray } (.lst (ns.map V.int))) else none
    have at_a : H a = some (.frz { cls := .type "list", data := .seq vs.toArray } (.lst (ns.map V.int))) := if_pos rfl
    have off : ∀ b, b ≠ a → H b = none := fun b n => if_neg n
    have hO : Only H := fun b => by
      by_cases e : b = a
      · subst e
        exact .inr ⟨_, _, at_a⟩
      · exact .inl (off b e)
    refine law_core (H := H) KX hns hb hbb hlim hg ha hr F hbind (hsp _ hO (.inl (.inr ⟨_, at_a⟩))) hO (fun b u z => ?_) (fun b z => ?_) fun _ => hk
    · by_cases e : b = a
      · subst e
        rw [at_a] at z
        cases z
        exact ⟨ha, by rw [List.length_map]; exact hl, vs, _, rv, ha⟩
      · rw [off b e] at z
        cases z
    · by_cases e : b = a
      · exact e
      · exact absurd (off b e) z
end
theorem walk_ofG {l : PySem.W.OpenLaw} {n k : Nat} {q : Program} {loose : List Str} {XPp : (Str → Option Value) → Heap → Prop} {YP : World → Heap → Prop} {d : DefRec} {x : Str} (hn : l.most = some n) (hn2 : n ≤ sizeLine) (hdf : d.params.defaults = []) (hr : Room k callerA)
    (F : ∀ (w : World) (mg : Str → Option Value) (fa : Addr) (h : Heap), YP w h → h.Ns mainGlobals mg → mg d.name = some (.ref fa) → ∃ (K : PySem.W.Frag) (fd : FuncData) (sp : Sp), K.In h ∧ (∀ (s : Shared) (u : Value), BindsTo s fd ⟨[u], []⟩ [(x, u)]) ∧
      (∀ (H : Hp) (a : Addr) (ns : List Int), ns.length ≤ n → Only H → SqL K H a (ns.map V.int) → sp [.ref a] H (fun v _ => v = .bl true) fun _ _ _ => False) ∧ ∀ base : Heap, K.In base → base.Ns mainGlobals mg → FnG l.prog w K mg base k fa fd [x] sp) :
    PySem.W.WalkO q loose XPp YP l.row.toRowW d [] (fun f vs => PySem.call f vs) := by
  refine Att.attach_call hn hdf ?_
  intro w s0 s1 mg mb fa o pm cd doc a vs ns G Y ho hd hcd hmg hobj hints hlen hg
  obtain ⟨K, fd, sp, KX, hb, hsp, hF⟩ := F w mg fa _ Y G.T.g hmg
  exact law_callG KX G.T.g G.T.b G.T.builtins G.T.nolimit hg hobj hints (Nat.le_trans hlen hn2) hr hF hb fun H hO hS => hsp H a ns hlen hO hS
end Pm
end
section
set_option Elab.async false
set_option linter.all false
set_option maxHeartbeats 2000000
/-! Pm8h: repr and str of data and of own objects, as rules over the layer. -/
namespace Pm
open PySem PySem.Spec PyProof.Rows L2
section
variable {X : Cx}
def rReprD (K : PySem.W.Frag) : List V → Hp → VK → Prop := fun xs H Q => ∃ y d, xs = [y] ∧ Dp K H y d ∧ d.showable = true ∧ d.hasDict = false ∧ d.depth ≤ 61 ∧ d.shown.length ≤ sizeLine ∧ Q (.str d.shown) H
theorem reprD_go {pins : List (Addr × Obj)} {s : Shared} {σ : L2.St} {H : Hp} {y : V} {u : Value} {d : PyData} {Q : VK} (gd : X.A.guards = some []) (un : X.A.units + 128 < cLine) (I : Inv X pins σ H s) (ru : RelV y u) (hd : Dp X.K H y d) (sh : d.showable = true) (nd : d.hasDict = false)
    (dp : d.depth ≤ 61) (hz : d.shown.length ≤ sizeLine) (q : Q (.str d.shown) H) : wpAny (model X.prog X.w) X.A (call (.builtin "repr") [u]) (EP X pins σ Q) X.xe s := by
  obtain ⟨as, rr⟩ := Dp.reads I d y u hd ru
  have fin : ∀ (t : Str), d.shown = t → EP X pins σ Q (.str t s.toks) { s with toks := s.toks + 1 } := fun t e => ⟨.str t, H, I.tok _, ⟨_, rfl⟩, e ▸ q⟩
  cases u with
  | none => cases rr; exact PySem.P.repr_of_none (fin _ (by simp only [PyData.shown]))
  | bool b => cases rr; exact PySem.P.repr_of_bool (fin _ (by simp only [PyData.shown]))
  | int i t => cases rr; exact PySem.P.repr_of_int (by simpa [PyData.showable] using sh) (fin _ (by simp only [PyData.shown]))
  | str x t => cases rr; exact PySem.P.repr_of_str (fin _ (by simp only [PyData.shown])) (by simpa only [PyData.shown] using hz)
  | ref a =>
    exact repr_of_reads' rr sh (fun e => by rw [nd] at e; cases e) gd (by omega) (fun _ _ e => e) (fun h' u tk hk => ⟨.str _, H, I.kept (t' := tk) hk, ⟨u, rfl⟩, q⟩) hz
  | _ => cases rr
/-! ### own ones -/
section
variable {k n : Nat} {f C : Addr} {fd : FuncData} {ps : List Str} {sp : Sp} {g : List Value → List Value → List Value} {gV : List V → List V → List V}
/-- an own special method, from a place that lies a little deeper -/
theorem run_in {A : Around} {pins : List (Addr × Obj)} {σ : L2.St} {H : Hp} {s : Shared} {Q : VK} {us : List Value} {vs : List V} (hA : A.guards = some []) (hfr : A.frames = X.A.frames) (hr : Room k A) (F : FnG X.prog X.w X.K X.mg X.base k f fd ps sp) (hb : KBn X.K fd ps n [] g gV)
    (I : Inv X pins σ H s) (r : Vals vs us) (l1 : vs.length = n) (h : sp (gV vs []) H Q E0) : wpAny (model X.prog X.w) A (call (.ref f) us) (EP X pins σ Q) X.xe s := by
  have e := I.env0
  have e0 : Env0 X.prog X.w X.K X.mg X.base A X.stack s H := ⟨by rw [hfr]; exact e.frames, e.mod, e.bs, e.bsz, e.funs, e.frf, e.hok, e.bare⟩
  refine wpAny_call ?_
  refine codeAny_mono (F.run A X.stack s H _ _ _ Q E0 hA hr e0 (hb.to s us [] I.kIn (by rw [← r.length, l1]) rfl) (hb.rel r .nil) h) ?_
  intro res s' hq
  match res, hq with
  | .error e, hq => exact pass0 pins σ H s e s' I hq
  | .ok (.ret u), hq => exact I.after hq
  | .ok .next, hq => exact (show False from hq).elim
  | .ok .brk, hq => exact (show False from hq).elim
  | .ok .cont, hq => exact (show False from hq).elim
/-- behind it: a text -/
abbrev StrK (Q : VK) : VK := fun v H' => ∃ z, v = .str z ∧ Q (.str z) H'
theorem reprO_go {pins : List (Addr × Obj)} {s : Shared} {σ : L2.St} {H : Hp} {a dx : Addr} {fs : List (Str × V)} {Q : VK} (gd : X.A.guards = some []) (un : X.A.units + 128 < cLine) (I : Inv X pins σ H s) (ha : H a = some (.ins C dx fs)) (me : Meth X.K C "__repr__" f)
    (F : FnG X.prog X.w X.K X.mg X.base k f fd ps sp) (hr : Room (k + 1) X.A) (hb : KBn X.K fd ps 1 [] g gV) (h : sp (gV [.ref a] []) H (StrK Q) E0) : wpAny (model X.prog X.w) X.A (call (.builtin "repr") [.ref a]) (EP X pins σ Q) X.xe s := by
  obtain ⟨mA, J, _⟩ := ins_get I.hok ha
  obtain ⟨od, J, _⟩ := J.look
  obtain ⟨m, hF⟩ := I.fr
  refine PySem.W.repr_K (by show X.A.units + 1 < cLine; omega) hF I.ok.mod.kin J me.at_ me.fn ?_
  refine wpAny_mono (run_in (A := X.A.in1) gd rfl hr.in1 F hb I (vs := [.ref a]) (us := [.ref a]) (.cons rfl .nil) rfl h) ?_ fun _ _ e => e
  rintro v s' ⟨x, H', I', rv, z, rfl, q⟩
  obtain ⟨t, rfl⟩ := rv
  exact ⟨.str z, H', I', ⟨t, rfl⟩, q⟩
theorem room2 {A : Around} (r : Room (k + 1) A) : Room k A.in1.in1 :=
  ⟨r.hd, by have := r.dp; show A.depth + 3 * k + 5 < _; omega, by have := r.un; show A.units + 1 + 1 + 16 * k + 200 < _; omega⟩
/-- str(o) by the own __str__ -/
theorem strO_go {pins : List (Addr × Obj)} {s : Shared} {σ : L2.St} {H : Hp} {a dx : Addr} {fs : List (Str × V)} {Q : VK} (gd : X.A.guards = some []) (un : X.A.units + 128 < cLine) (I : Inv X pins σ H s) (ha : H a = some (.ins C dx fs)) (me : Meth X.K C "__str__" f)
    (Fk : FnG X.prog X.w X.K X.mg X.base k f fd ps sp) (hr : Room (k + 1) X.A) (hb : KBn X.K fd ps 1 [] g gV) (h : sp (gV [.ref a] []) H (StrK Q) E0) : wpAny (model X.prog X.w) X.A (call (.type "str") [.ref a]) (EP X pins σ Q) X.xe s := by
  obtain ⟨mA, J, _⟩ := ins_get I.hok ha
  obtain ⟨od, J, _⟩ := J.look
  obtain ⟨m, hF⟩ := I.fr
  refine callType_newIn (prog := X.prog) (w := X.w) (S := fun A' R s' => wpAny (model X.prog X.w) A'.in1 (PySem.Builtin.Str.strOf (.ref a)) (fun r s'' => R (.ok (.ret r)) s'') (fun e s'' => R (.error e) s'') s') F.called_str (by decide) (F.typeCall_str_1 _) (F.newCall_str_1 _) (fun obj => F.args_object_init_2 obj _) F.entry_str_new ?_ ?_
  · intro A' R s' hs
    rw [str_new_tree]
    refine wpAny_bind (wpAny_pure ?_)
    refine wpAny_bind (wpAny_of_eq isSubtype_str_str ?_)
    exact wpAny_bind (wpAny_mono hs (fun r s' h' => wpAny_pure h') fun _ _ e => e)
  · show wpAny _ _ (PySem.Builtin.Str.strOf (.ref a)) _ _ _
    unfold PySem.Builtin.Str.strOf
    rw [show PySem.Builtin.Str.isExactStr (.ref a) = false from rfl]
    refine wpAny_bind (m := cRoomFor _ _) (wpAny_cRoomFor (by show X.A.units + 1 + 1 < cLine; omega) ?_)
    refine wpAny_bind (m := callSpecial? _ (Str.ofString "__str__")) (PySem.W.special_fn I.kIn J me.at_ (beq_iff_eq.mp me.fn) (wpAny_mono (run_in (A := X.A.in1.in1) gd rfl (room2 hr) Fk hb I (vs := [.ref a]) (us := [.ref a]) (.cons rfl .nil) rfl h) ?_ fun _ _ e => e))
    rintro v s' ⟨x, H', I', rv, z, rfl, q⟩
    obtain ⟨t, rfl⟩ := rv
    show wpAny _ _ (do
      let x ← asStr? (.str z t)
      if x.isNone = true then _ else _) _ _ _
    refine wpAny_bind (m := asStr? (.str z t)) (wpAny_pure ?_)
    exact wpAny_pure ⟨typeIs_str _ _ _, .str z, H', I', ⟨t, rfl⟩, q⟩
/-- behind an own __eq__: True or False -/
abbrev BlK (Q : VK) : VK := fun v H' => ∃ z, v = .bl z ∧ Q (.bl z) H'
theorem eqO_go {pins : List (Addr × Obj)} {s : Shared} {σ : L2.St} {H : Hp} {a b dx dy : Addr} {fs gs : List (Str × V)} {Q : VK} (gd : X.A.guards = some []) (un : X.A.units + 128 < cLine) (I : Inv X pins σ H s) (ha : H a = some (.ins C dx fs)) (hb' : H b = some (.ins C dy gs)) (me : Meth X.K C "__eq__" f)
    (F : FnG X.prog X.w X.K X.mg X.base k f fd ps sp) (hr : Room (k + 1) X.A) (hb : KBn X.K fd ps 2 [] g gV) (h : sp (gV [.ref a, .ref b] []) H (BlK Q) E0) : wpAny (model X.prog X.w) X.A (compareOp .Eq (.ref a) (.ref b)) (EP X pins σ Q) X.xe s := by
  obtain ⟨mA, J, _⟩ := ins_get I.hok ha
  obtain ⟨od, J, _⟩ := J.look
  obtain ⟨mB, J2, _⟩ := ins_get I.hok hb'
  obtain ⟨ob, J2, _⟩ := J2.look
  obtain ⟨m, hF⟩ := I.fr
  show wpAny _ _ (richCompare .Eq (.ref a) (.ref b)) _ _ _
  refine PySem.W.cmp_K (tb := .ref C) (by omega) hF I.ok.mod.kin J J2.type (by simp [PySem.W.notFirst]) me.at_ me.fn ?_
  refine wpAny_mono (run_in (A := X.A) gd rfl ⟨hr.hd, by have := hr.dp; omega, by have := hr.un; omega⟩ F hb I (vs := [.ref a, .ref b]) (us := [.ref a, .ref b]) (.cons rfl (.cons rfl .nil)) rfl h) ?_ fun _ _ e => e
  rintro v s' ⟨x, H', I', rv, z, rfl, q⟩
  obtain rfl := rv
  exact ⟨.bl z, H', I', rfl, q⟩
/-- behind an own __eq__, turned about -/
abbrev BlN (Q : VK) : VK := fun v H' => ∃ z, v = .bl z ∧ Q (.bl (!z)) H'
theorem neO_go {pins : List (Addr × Obj)} {s : Shared} {σ : L2.St} {H : Hp} {a b dx dy : Addr} {fs gs : List (Str × V)} {Q : VK} (gd : X.A.guards = some []) (un : X.A.units + 128 < cLine) (I : Inv X pins σ H s) (ha : H a = some (.ins C dx fs)) (hb' : H b = some (.ins C dy gs)) (me : Meth X.K C "__eq__" f)
    (hne : PySem.W.findIn X.K (.ref C) "__ne__" = some (some (.builtin "object.__ne__"))) (hm : PySem.W.mroIn X.K C (.type "object") = some true)
    (F : FnG X.prog X.w X.K X.mg X.base k f fd ps sp) (hr : Room (k + 1) X.A) (hb : KBn X.K fd ps 2 [] g gV) (h : sp (gV [.ref a, .ref b] []) H (BlN Q) E0) : wpAny (model X.prog X.w) X.A (compareOp .NotEq (.ref a) (.ref b)) (EP X pins σ Q) X.xe s := by
  obtain ⟨mA, J, _⟩ := ins_get I.hok ha
  obtain ⟨od, J, _⟩ := J.look
  obtain ⟨mB, J2, _⟩ := ins_get I.hok hb'
  obtain ⟨ob, J2, _⟩ := J2.look
  have XK := I.kIn
  have FB := PySem.F.cmp_object
  have sub : PySem.W.Looks (model X.prog X.w) s.heap (isInstance (.ref a) (.type "object")) true := J.type.andThen (PySem.W.looks_mroIn XK hm)
  have inner : wpAny (model X.prog X.w) X.A.in1 (call (.ref f) [.ref a, .ref b]) (fun v s' => ∃ z, v = .bool z ∧ EP X pins σ Q (.bool (!z)) s') X.xe s := by
    refine wpAny_mono (run_in (A := X.A.in1) gd rfl hr.in1 F hb I (vs := [.ref a, .ref b]) (us := [.ref a, .ref b]) (.cons rfl (.cons rfl .nil)) rfl h) ?_ fun _ _ e => e
    rintro v s' ⟨x, H', I', rv, z, rfl, q⟩
    obtain rfl := rv
    exact ⟨z, rfl, .bl (!z), H', I', rfl, q⟩
  have entry : wpAny (model X.prog X.w) X.A.in1 (Builtin.«object.__ne__» ⟨[.ref a, .ref b], []⟩) (fun fin s' => ∃ v, fin = .done (.ret v) ∧ v ≠ .notImplemented ∧ EP X pins σ Q v s') X.xe s := by
    unfold Builtin.«object.__ne__»
    refine wpAny_bind (wpAny_of_eq (a := ((Value.ref a : Value), [Value.ref b])) (by first | rfl | (simp only [slotArgs]; rfl)) ?_)
    refine wpAny_bind (wpAny_cRoomFor (by show X.A.units + 1 < cLine; omega) ?_)
    refine wpAny_bind (PySem.W.ifBound_K XK J me.at_ me.fn (wpAny_mono inner (fun v s' hv => ?_) fun _ _ e => e))
    obtain ⟨z, rfl, q⟩ := hv
    refine wpAny_bind (m := truthy (.bool z)) (wpAny_truthy_bool ?_)
    exact wpAny_pure ⟨_, rfl, by simp, q⟩
  have one : wpAny (model X.prog X.w) X.A (tryCompare (.ref a) "__ne__" (.ref b)) (fun r s' => ∃ v, r = some v ∧ EP X pins σ Q v s') X.xe s := by
    unfold tryCompare
    refine wpAny_bind ?_
    simp only [callSpecialIfBound?, bindSpecialIfBound?]
    refine wpAny_holding (wpAny_bind (wpAny_bind (wpAny_bind (J.type.here ((PySem.W.looks_findIn XK hne).here ?_)))))
    simp only [FB.ne.bind]
    refine wpAny_bind (wpAny_askSetting (wpAny_ite ?_))
    have go : wpAny (model X.prog X.w) X.A (call (.builtin "object.__ne__") ([.ref a] ++ [.ref b])) (fun v s' => v ≠ .notImplemented ∧ EP X pins σ Q v s') X.xe s := by
      refine wpAny_call (codeAny_call_builtin FB.ne.plain PySem.F.cmpEntry_ne (PySem.W.check_slot PySem.F.cmpKind_ne PySem.F.cmpSplit_ne sub (PySem.F.cmpArgs_ne _ _) (wpAny_mono entry (fun fin s' hv => ?_) fun _ _ e => e)))
      obtain ⟨v, rfl, hn, q⟩ := hv
      exact ⟨hn, q⟩
    have fin : wpAny (model X.prog X.w) X.A (call (.builtin "object.__ne__") ([.ref a] ++ [.ref b]) >>= fun v => pure (some v)) (fun r s' => ∃ v, r = some v ∧ v ≠ .notImplemented ∧ EP X pins σ Q v s') X.xe s :=
      wpAny_bind (wpAny_mono go (fun v s' h' => wpAny_pure ⟨v, rfl, h'⟩) fun _ _ h' => h')
    have back : ∀ (r : Option Value) (s' : Shared), (∃ v, r = some v ∧ v ≠ .notImplemented ∧ EP X pins σ Q v s') → wpAny (model X.prog X.w) X.A (match r with
        | some .notImplemented | none => pure none
        | some v => pure (some v) : Sem (Option Value)) (fun r s' => ∃ v, r = some v ∧ EP X pins σ Q v s') X.xe s' := by
      rintro r s' ⟨v, rfl, hn, q⟩
      cases v <;> first | exact absurd rfl hn | exact wpAny_pure ⟨_, rfl, q⟩
    have fin2 := wpAny_mono fin back fun _ _ e => e
    split
    · exact wpAny_bind (wpAny_pure (wpAny_pure fin2))
    · exact wpAny_tryCatch (wpAny_bind (wpAny_pure (wpAny_pure fin2)))
  show wpAny _ _ (richCompare .NotEq (.ref a) (.ref b)) _ _ _
  unfold richCompare
  simp only [oneThing_ref]
  refine wpAny_holding (wpAny_bind (wpAny_cRoomFor (by omega) ?_))
  refine wpAny_bind (J.type.here (wpAny_bind (J2.type.here ?_)))
  rw [show (Value.ref C != Value.ref C) = false from by simp]
  simp only [Bool.false_eq_true, if_false]
  refine wpAny_bind (wpAny_pure ?_)
  simp only [Bool.false_eq_true, if_false]
  refine wpAny_bind (wpAny_mono one (fun r s' z => ?_) fun _ _ e => e)
  obtain ⟨v, rfl, hq⟩ := z
  exact wpAny_pure hq
end
end
end Pm
end
section
set_option Elab.async false
set_option linter.all false
set_option maxHeartbeats 2000000
/-! Pm8i: == and != of an own object and a value of a built-in kind, both ways. -/
namespace Pm
open PySem PySem.Spec PyProof.Rows L2
open PySem.AutoSeq1 (wpAny_loadPart')
theorem none_eq_own (l : Addr) : Gives (Builtin.«NoneType.__eq__» ⟨[.none, .ref l], []⟩) (.val (Value.notImplemented)) :=
  .of_wp fun M A E s Q h => by obtain ⟨hp, g, d, tk, os⟩ := s; wp_walk; exact ⟨_, rfl, h⟩
theorem none_ne_own (l : Addr) : Gives (Builtin.«NoneType.__ne__» ⟨[.none, .ref l], []⟩) (.val (Value.notImplemented)) :=
  .of_wp fun M A E s Q h => by obtain ⟨hp, g, d, tk, os⟩ := s; wp_walk; exact ⟨_, rfl, h⟩
theorem int_eq_own (b : Int) (u : Tok) (l : Addr) (C dx : Addr) :
    Meets (Builtin.«int.__eq__» ⟨[.int b u, .ref l], []⟩) (fun _ R s => s.heap.get? l = some (PySem.W.instObj C dx) ∧ R (.ok (.ret .notImplemented)) s) :=
  .of_wp fun prog w A R s h => by obtain ⟨hp, g, d, tk, os⟩ := s; obtain ⟨hl, h⟩ := h; wp_walk using wpAny_loadPart' hl, wpAny_load hl; exact ⟨_, rfl, h⟩
theorem bool_eq_own (b : Bool) (l : Addr) (C dx : Addr) :
    Meets (Builtin.«int.__eq__» ⟨[.bool b, .ref l], []⟩) (fun _ R s => s.heap.get? l = some (PySem.W.instObj C dx) ∧ R (.ok (.ret .notImplemented)) s) :=
  .of_wp fun prog w A R s h => by obtain ⟨hp, g, d, tk, os⟩ := s; obtain ⟨hl, h⟩ := h; wp_walk using wpAny_loadPart' hl, wpAny_load hl; exact ⟨_, rfl, h⟩
theorem str_eq_own (b : Str) (u : Tok) (l : Addr) (C dx : Addr) :
    Meets (Builtin.«str.__eq__» ⟨[.str b u, .ref l], []⟩) (fun _ R s => s.heap.get? l = some (PySem.W.instObj C dx) ∧ R (.ok (.ret .notImplemented)) s) :=
  .of_wp fun prog w A R s h => by obtain ⟨hp, g, d, tk, os⟩ := s; obtain ⟨hl, h⟩ := h; wp_walk using wpAny_loadPart' hl, wpAny_load hl; exact ⟨_, rfl, h⟩
theorem tuple_eq_own (l y C dx : Addr) (items : Array Value) (n : Nat) (dd : Option Addr) (sl : Array (Option Value)) {prog : Program} {w : World} {A : Around} {R : Result → Shared → Prop} {s : Shared}
   (hl : s.heap.get? l = some { cls := .type "tuple", dict := dd, data := .seq items n, slots := sl }) (hy : s.heap.get? y = some (PySem.W.instObj C dx)) (sub : PySem.W.Looks (model prog w) s.heap (isSubtype (.ref C) (.type "tuple")) false) (h : R (.ok (.ret .notImplemented)) s) :
    wpAny (model prog w) A.in1 (Builtin.«tuple.__eq__» ⟨[.ref l, .ref y], []⟩) (fun fin s' => match fin with | .done f => R (.ok f) s' | .again c' => c'.quiet = true ∧ codeAny (model prog w) A c' R s') (fun e s' => R (.error e) s') s := by
  obtain ⟨hp, g, d, tk, os⟩ := s
  wp_walk using wpAny_loadPart' hl, wpAny_loadPart' hy
  refine PySem.W.Looks.here (s := ⟨hp, g, d, tk, os⟩) sub ?_
  wp_walk
  exact h
theorem list_eq_own (l y C dx : Addr) (items : Array Value) (n : Nat) (dd : Option Addr) (sl : Array (Option Value)) {prog : Program} {w : World} {A : Around} {R : Result → Shared → Prop} {s : Shared}
   (hl : s.heap.get? l = some { cls := .type "list", dict := dd, data := .seq items n, slots := sl }) (hy : s.heap.get? y = some (PySem.W.instObj C dx)) (sub : PySem.W.Looks (model prog w) s.heap (isSubtype (.ref C) (.type "list")) false) (h : R (.ok (.ret .notImplemented)) s) :
    wpAny (model prog w) A.in1 (Builtin.«list.__eq__» ⟨[.ref l, .ref y], []⟩) (fun fin s' => match fin with | .done f => R (.ok f) s' | .again c' => c'.quiet = true ∧ codeAny (model prog w) A c' R s') (fun e s' => R (.error e) s') s := by
  obtain ⟨hp, g, d, tk, os⟩ := s
  wp_walk using wpAny_loadPart' hl, wpAny_loadPart' hy
  refine PySem.W.Looks.here (s := ⟨hp, g, d, tk, os⟩) sub ?_
  wp_walk
  exact h
theorem dict_eq_own (l y C dx : Addr) (es : Array DictEntry) (ep : Nat) (dd : Option Addr) (sl : Array (Option Value)) {prog : Program} {w : World} {A : Around} {R : Result → Shared → Prop} {s : Shared}
   (hl : s.heap.get? l = some { cls := .type "dict", dict := dd, data := .dict es ep, slots := sl }) (hy : s.heap.get? y = some (PySem.W.instObj C dx)) (sub : PySem.W.Looks (model prog w) s.heap (isSubtype (.ref C) (.type "dict")) false) (h : R (.ok (.ret .notImplemented)) s) :
    wpAny (model prog w) A.in1 (Builtin.«dict.__eq__» ⟨[.ref l, .ref y], []⟩) (fun fin s' => match fin with | .done f => R (.ok f) s' | .again c' => c'.quiet = true ∧ codeAny (model prog w) A c' R s') (fun e s' => R (.error e) s') s := by
  obtain ⟨hp, g, d, tk, os⟩ := s
  wp_walk using wpAny_loadPart' hl, wpAny_loadPart' hy
  refine PySem.W.Looks.here (s := ⟨hp, g, d, tk, os⟩) sub ?_
  wp_walk
  exact h
theorem int_ne_own (b : Int) (u : Tok) (l : Addr) (C dx : Addr) :
    Meets (Builtin.«int.__ne__» ⟨[.int b u, .ref l], []⟩) (fun _ R s => s.heap.get? l = some (PySem.W.instObj C dx) ∧ R (.ok (.ret .notImplemented)) s) :=
  .of_wp fun prog w A R s h => by obtain ⟨hp, g, d, tk, os⟩ := s; obtain ⟨hl, h⟩ := h; wp_walk using wpAny_loadPart' hl, wpAny_load hl; exact ⟨_, rfl, h⟩
theorem bool_ne_own (b : Bool) (l : Addr) (C dx : Addr) :
    Meets (Builtin.«int.__ne__» ⟨[.bool b, .ref l], []⟩) (fun _ R s => s.heap.get? l = some (PySem.W.instObj C dx) ∧ R (.ok (.ret .notImplemented)) s) :=
  .of_wp fun prog w A R s h => by obtain ⟨hp, g, d, tk, os⟩ := s; obtain ⟨hl, h⟩ := h; wp_walk using wpAny_loadPart' hl, wpAny_load hl; exact ⟨_, rfl, h⟩
theorem str_ne_own (b : Str) (u : Tok) (l : Addr) (C dx : Addr) :
    Meets (Builtin.«str.__ne__» ⟨[.str b u, .ref l], []⟩) (fun _ R s => s.heap.get? l = some (PySem.W.instObj C dx) ∧ R (.ok (.ret .notImplemented)) s) :=
  .of_wp fun prog w A R s h => by obtain ⟨hp, g, d, tk, os⟩ := s; obtain ⟨hl, h⟩ := h; wp_walk using wpAny_loadPart' hl, wpAny_load hl; exact ⟨_, rfl, h⟩
theorem tuple_ne_own (l y C dx : Addr) (items : Array Value) (n : Nat) (dd : Option Addr) (sl : Array (Option Value)) {prog : Program} {w : World} {A : Around} {R : Result → Shared → Prop} {s : Shared}
   (hl : s.heap.get? l = some { cls := .type "tuple", dict := dd, data := .seq items n, slots := sl }) (hy : s.heap.get? y = some (PySem.W.instObj C dx)) (sub : PySem.W.Looks (model prog w) s.heap (isSubtype (.ref C) (.type "tuple")) false) (h : R (.ok (.ret .notImplemented)) s) :
    wpAny (model prog w) A.in1 (Builtin.«tuple.__ne__» ⟨[.ref l, .ref y], []⟩) (fun fin s' => match fin with | .done f => R (.ok f) s' | .again c' => c'.quiet = true ∧ codeAny (model prog w) A c' R s') (fun e s' => R (.error e) s') s := by
  obtain ⟨hp, g, d, tk, os⟩ := s
  wp_walk using wpAny_loadPart' hl, wpAny_loadPart' hy
  refine PySem.W.Looks.here (s := ⟨hp, g, d, tk, os⟩) sub ?_
  wp_walk
  exact h
theorem list_ne_own (l y C dx : Addr) (items : Array Value) (n : Nat) (dd : Option Addr) (sl : Array (Option Value)) {prog : Program} {w : World} {A : Around} {R : Result → Shared → Prop} {s : Shared}
   (hl : s.heap.get? l = some { cls := .type "list", dict := dd, data := .seq items n, slots := sl }) (hy : s.heap.get? y = some (PySem.W.instObj C dx)) (sub : PySem.W.Looks (model prog w) s.heap (isSubtype (.ref C) (.type "list")) false) (h : R (.ok (.ret .notImplemented)) s) :
    wpAny (model prog w) A.in1 (Builtin.«list.__ne__» ⟨[.ref l, .ref y], []⟩) (fun fin s' => match fin with | .done f => R (.ok f) s' | .again c' => c'.quiet = true ∧ codeAny (model prog w) A c' R s') (fun e s' => R (.error e) s') s := by
  obtain ⟨hp, g, d, tk, os⟩ := s
  wp_walk using wpAny_loadPart' hl, wpAny_loadPart' hy
  refine PySem.W.Looks.here (s := ⟨hp, g, d, tk, os⟩) sub ?_
  wp_walk
  exact h
theorem dict_ne_own (l y C dx : Addr) (es : Array DictEntry) (ep : Nat) (dd : Option Addr) (sl : Array (Option Value)) {prog : Program} {w : World} {A : Around} {R : Result → Shared → Prop} {s : Shared}
   (hl : s.heap.get? l = some { cls := .type "dict", dict := dd, data := .dict es ep, slots := sl }) (hy : s.heap.get? y = some (PySem.W.instObj C dx)) (sub : PySem.W.Looks (model prog w) s.heap (isSubtype (.ref C) (.type "dict")) false) (h : R (.ok (.ret .notImplemented)) s) :
    wpAny (model prog w) A.in1 (Builtin.«dict.__ne__» ⟨[.ref l, .ref y], []⟩) (fun fin s' => match fin with | .done f => R (.ok f) s' | .again c' => c'.quiet = true ∧ codeAny (model prog w) A c' R s') (fun e s' => R (.error e) s') s := by
  obtain ⟨hp, g, d, tk, os⟩ := s
  wp_walk using wpAny_loadPart' hl, wpAny_loadPart' hy
  refine PySem.W.Looks.here (s := ⟨hp, g, d, tk, os⟩) sub ?_
  wp_walk
  exact h
/-- a value of a built-in kind -/
def bltN : List String := ["NoneType", "bool", "int", "str", "tuple", "list", "dict"]
def BltV (h : Heap) : Value → String → Prop
  | .none, T => T = "NoneType"
  | .bool _, T => T = "bool"
  | .int _ _, T => T = "int"
  | .str _ _, T => T = "str"
  | .ref l, T => (∃ items n dd sl, (T = "tuple" ∨ T = "list") ∧ h.get? l = some { cls := .type T, dict := dd, data := .seq items n, slots := sl }) ∨ (T = "dict" ∧ ∃ es ep dd sl, h.get? l = some { cls := .type "dict", dict := dd, data := .dict es ep, slots := sl })
  | _, _ => False
theorem BltV.mem {h : Heap} {u : Value} {T : String} (b : BltV h u T) : T ∈ bltN := by
  cases u with
  | none => rw [show T = _ from b]; decide
  | bool c => rw [show T = _ from b]; decide
  | int i t => rw [show T = _ from b]; decide
  | str x t => rw [show T = _ from b]; decide
  | ref l =>
    rcases b with ⟨_, _, _, _, rfl | rfl, _⟩ | ⟨rfl, _⟩
    · decide
    · decide
    · decide
  | _ => exact b.elim
theorem BltV.keeps {h h' : Heap} {u : Value} {T : String} (b : BltV h u T) (k : ∀ b o, h.get? b = some o → h'.get? b = some o) : BltV h' u T := by
  cases u with
  | ref l =>
    rcases b with ⟨items, n, dd, sl, e, hl⟩ | ⟨e, es, ep, dd, sl, hl⟩
    · exact .inl ⟨items, n, dd, sl, e, k _ _ hl⟩
    · exact .inr ⟨e, es, ep, dd, sl, k _ _ hl⟩
  | _ => exact b
theorem BltV.typeIs {s : Shared} {u : Value} {T : String} (b : BltV s.heap u T) : s.TypeIs u T := by
  cases u with
  | none => rw [show T = _ from b]; rfl
  | bool c => rw [show T = _ from b]; rfl
  | int i t => rw [show T = _ from b]; rfl
  | str x t => rw [show T = _ from b]; rfl
  | ref l =>
    rcases b with ⟨_, _, _, _, _, hl⟩ | ⟨rfl, _, _, _, _, hl⟩
    · exact ⟨_, hl, rfl⟩
    · exact ⟨_, hl, rfl⟩
  | _ => exact b.elim
theorem BltV.looks {prog : Program} {w : World} {s : Shared} {u : Value} {T : String} (b : BltV s.heap u T) : PySem.W.Looks (model prog w) s.heap (typeOf u) (.type T) :=
  fun A Q E s' k q => wpAny_typeOf (b.keeps k).typeIs q
theorem sub_blt {K : PySem.W.Frag} {C : Addr} : ∀ T ∈ bltN, PySem.W.subIn K (.type T) (.ref C) = some false := by
  have go : ∀ (T : String) (l : List Value), fastBuiltinMro T = some l → l.contains (.ref C) = false → PySem.W.subIn K (.type T) (.ref C) = some false := by
    intro T l e h
    show (fastBuiltinMro T).map (·.contains (.ref C)) = some false
    rw [e, Option.map_some, h]
  intro T h
  simp only [bltN, List.mem_cons, List.not_mem_nil, or_false] at h
  rcases h with rfl | rfl | rfl | rfl | rfl | rfl | rfl
  · exact go _ [.type "NoneType", .type "object"] (by decide +kernel) (by simp)
  · exact go _ [.type "bool", .type "int", .type "object"] (by decide +kernel) (by simp)
  · exact go _ [.type "int", .type "object"] (by decide +kernel) (by simp)
  · exact go _ [.type "str", .type "object"] (by decide +kernel) (by simp)
  · exact go _ [.type "tuple", .type "object"] (by decide +kernel) (by simp)
  · exact go _ [.type "list", .type "object"] (by decide +kernel) (by simp)
  · exact go _ [.type "dict", .type "object"] (by decide +kernel) (by simp)
theorem decl_eq {K : PySem.W.Frag} {prog : Program} {w : World} {A : Around} {E : Value → Shared → Prop} {s : Shared} {u : Value} {T : String} {y C dx : Addr} {Q : Option Value → Shared → Prop} (b : BltV s.heap u T) (hy : s.heap.get? y = some (PySem.W.instObj C dx))
    (nm : ∀ T ∈ bltN, PySem.W.mroIn K C (.type T) = some false) (X : K.In s.heap) (q : Q none s) : wpAny (model prog w) A (tryCompare u "__eq__" (.ref y)) Q E s := by
  cases u with
  | none => exact wpAny_tryCompare_declines (T := "NoneType") rfl PySem.F.slot_NoneType_eq (call_gives PySem.F.slot_NoneType_eq rfl PySem.F.entry_NoneType_eq (PySem.F.args_NoneType_eq_2 _ _) (none_eq_own y) ⟨rfl, q⟩)
  | bool c => exact wpAny_tryCompare_declines (T := "bool") rfl PySem.F.slot_bool_eq (call_meets PySem.F.slot_bool_eq rfl PySem.F.entry_int_eq (PySem.F.args_int_eq_2 _ _) (bool_eq_own c y C dx) ⟨hy, rfl, q⟩)
  | int i t => exact wpAny_tryCompare_declines (T := "int") rfl PySem.F.slot_int_eq (call_meets PySem.F.slot_int_eq rfl PySem.F.entry_int_eq (PySem.F.args_int_eq_2 _ _) (int_eq_own i t y C dx) ⟨hy, rfl, q⟩)
  | str x t => exact wpAny_tryCompare_declines (T := "str") rfl PySem.F.slot_str_eq (call_meets PySem.F.slot_str_eq rfl PySem.F.entry_str_eq (PySem.F.args_str_eq_2 _ _) (str_eq_own x t y C dx) ⟨hy, rfl, q⟩)
  | ref l =>
    rcases b with ⟨items, n, dd, sl, rfl | rfl, hl⟩ | ⟨rfl, es, ep, dd, sl, hl⟩
    · refine wpAny_tryCompare_declines (T := "tuple") ⟨_, hl, rfl⟩ PySem.F.slot_tuple_eq (wpAny_call (codeAny_call_builtin PySem.F.slot_tuple_eq.plain PySem.F.entry_tuple_eq (PySem.F.slot_tuple_eq.check _ _ _ _ _ _ _ _ ⟨_, hl, rfl⟩ (PySem.F.args_tuple_eq_2 _ _) ?_)))
      exact tuple_eq_own _ _ _ _ _ _ _ _ (R := wants (fun v s' => v = .notImplemented ∧ Q none s') E) hl hy (PySem.W.looks_mroIn X (nm "tuple" (by decide))) ⟨rfl, q⟩
    · refine wpAny_tryCompare_declines (T := "list") ⟨_, hl, rfl⟩ PySem.F.slot_list_eq (wpAny_call (codeAny_call_builtin PySem.F.slot_list_eq.plain PySem.F.entry_list_eq (PySem.F.slot_list_eq.check _ _ _ _ _ _ _ _ ⟨_, hl, rfl⟩ (PySem.F.args_list_eq_2 _ _) ?_)))
      exact list_eq_own _ _ _ _ _ _ _ _ (R := wants (fun v s' => v = .notImplemented ∧ Q none s') E) hl hy (PySem.W.looks_mroIn X (nm "list" (by decide))) ⟨rfl, q⟩
    · refine wpAny_tryCompare_declines (T := "dict") ⟨_, hl, rfl⟩ PySem.F.slot_dict_eq (wpAny_call (codeAny_call_builtin PySem.F.slot_dict_eq.plain PySem.F.entry_dict_eq (PySem.F.slot_dict_eq.check _ _ _ _ _ _ _ _ ⟨_, hl, rfl⟩ (PySem.F.args_dict_eq_2 _ _) ?_)))
      exact dict_eq_own _ _ _ _ _ _ _ _ (R := wants (fun v s' => v = .notImplemented ∧ Q none s') E) hl hy (PySem.W.looks_mroIn X (nm "dict" (by decide))) ⟨rfl, q⟩
  | _ => exact b.elim
theorem decl_ne {K : PySem.W.Frag} {prog : Program} {w : World} {A : Around} {E : Value → Shared → Prop} {s : Shared} {u : Value} {T : String} {y C dx : Addr} {Q : Option Value → Shared → Prop} (b : BltV s.heap u T) (hy : s.heap.get? y = some (PySem.W.instObj C dx))
    (nm : ∀ T ∈ bltN, PySem.W.mroIn K C (.type T) = some false) (X : K.In s.heap) (q : Q none s) : wpAny (model prog w) A (tryCompare u "__ne__" (.ref y)) Q E s := by
  cases u with
  | none => exact wpAny_tryCompare_declines (T := "NoneType") rfl PySem.F.slot_NoneType_ne (call_gives PySem.F.slot_NoneType_ne rfl PySem.F.entry_NoneType_ne (PySem.F.args_NoneType_ne_2 _ _) (none_ne_own y) ⟨rfl, q⟩)
  | bool c => exact wpAny_tryCompare_declines (T := "bool") rfl PySem.F.slot_bool_ne (call_meets PySem.F.slot_bool_ne rfl PySem.F.entry_int_ne (PySem.F.args_int_ne_2 _ _) (bool_ne_own c y C dx) ⟨hy, rfl, q⟩)
  | int i t => exact wpAny_tryCompare_declines (T := "int") rfl PySem.F.slot_int_ne (call_meets PySem.F.slot_int_ne rfl PySem.F.entry_int_ne (PySem.F.args_int_ne_2 _ _) (int_ne_own i t y C dx) ⟨hy, rfl, q⟩)
  | str x t => exact wpAny_tryCompare_declines (T := "str") rfl PySem.F.slot_str_ne (call_meets PySem.F.slot_str_ne rfl PySem.F.entry_str_ne (PySem.F.args_str_ne_2 _ _) (str_ne_own x t y C dx) ⟨hy, rfl, q⟩)
  | ref l =>
    rcases b with ⟨items, n, dd, sl, rfl | rfl, hl⟩ | ⟨rfl, es, ep, dd, sl, hl⟩
    · refine wpAny_tryCompare_declines (T := "tuple") ⟨_, hl, rfl⟩ PySem.F.slot_tuple_ne (wpAny_call (codeAny_call_builtin PySem.F.slot_tuple_ne.plain PySem.F.entry_tuple_ne (PySem.F.slot_tuple_ne.check _ _ _ _ _ _ _ _ ⟨_, hl, rfl⟩ (PySem.F.args_tuple_ne_2 _ _) ?_)))
      exact tuple_ne_own _ _ _ _ _ _ _ _ (R := wants (fun v s' => v = .notImplemented ∧ Q none s') E) hl hy (PySem.W.looks_mroIn X (nm "tuple" (by decide))) ⟨rfl, q⟩
    · refine wpAny_tryCompare_declines (T := "list") ⟨_, hl, rfl⟩ PySem.F.slot_list_ne (wpAny_call (codeAny_call_builtin PySem.F.slot_list_ne.plain PySem.F.entry_list_ne (PySem.F.slot_list_ne.check _ _ _ _ _ _ _ _ ⟨_, hl, rfl⟩ (PySem.F.args_list_ne_2 _ _) ?_)))
      exact list_ne_own _ _ _ _ _ _ _ _ (R := wants (fun v s' => v = .notImplemented ∧ Q none s') E) hl hy (PySem.W.looks_mroIn X (nm "list" (by decide))) ⟨rfl, q⟩
    · refine wpAny_tryCompare_declines (T := "dict") ⟨_, hl, rfl⟩ PySem.F.slot_dict_ne (wpAny_call (codeAny_call_builtin PySem.F.slot_dict_ne.plain PySem.F.entry_dict_ne (PySem.F.slot_dict_ne.check _ _ _ _ _ _ _ _ ⟨_, hl, rfl⟩ (PySem.F.args_dict_ne_2 _ _) ?_)))
      exact dict_ne_own _ _ _ _ _ _ _ _ (R := wants (fun v s' => v = .notImplemented ∧ Q none s') E) hl hy (PySem.W.looks_mroIn X (nm "dict" (by decide))) ⟨rfl, q⟩
  | _ => exact b.elim
section
variable {X : Cx} {k n : Nat} {f C : Addr} {fd : FuncData} {ps : List Str} {sp : Sp} {g : List Value → List Value → List Value} {gV : List V → List V → List V}
variable {pins : List (Addr × Obj)} {s : Shared} {σ : L2.St} {H : Hp} {a dx : Addr} {fs : List (Str × V)} {Q : VK} {yv : V} {u : Value} {T : String}
theorem eqB_go (gd : X.A.guards = some []) (un : X.A.units + 128 < cLine) (I : Inv X pins σ H s) (ha : H a = some (.ins C dx fs)) (ry : RelV yv u) (hb' : BltV s.heap u T) (me : Meth X.K C "__eq__" f)
    (F : FnG X.prog X.w X.K X.mg X.base k f fd ps sp) (hr : Room (k + 1) X.A) (hb : KBn X.K fd ps 2 [] g gV) (h : sp (gV [.ref a, yv] []) H (BlK Q) E0) : wpAny (model X.prog X.w) X.A (compareOp .Eq (.ref a) u) (EP X pins σ Q) X.xe s := by
  obtain ⟨mA, J, _⟩ := ins_get I.hok ha
  obtain ⟨od, J, _⟩ := J.look
  obtain ⟨m, hF⟩ := I.fr
  show wpAny _ _ (richCompare .Eq (.ref a) u) _ _ _
  refine PySem.W.cmp_K (tb := .type T) (by omega) hF I.ok.mod.kin J hb'.looks (by simp [PySem.W.notFirst, sub_blt T hb'.mem]) me.at_ me.fn ?_
  refine wpAny_mono (run_in (A := X.A) gd rfl ⟨hr.hd, by have := hr.dp; omega, by have := hr.un; omega⟩ F hb I (vs := [.ref a, yv]) (us := [.ref a, u]) (.cons rfl (.cons ry .nil)) rfl h) ?_ fun _ _ e => e
  rintro v s' ⟨x, H', I', rv, z, rfl, q⟩
  obtain rfl := rv
  exact ⟨.bl z, H', I', rfl, q⟩
theorem eqL_go (gd : X.A.guards = some []) (un : X.A.units + 128 < cLine) (I : Inv X pins σ H s) (ha : H a = some (.ins C dx fs)) (ry : RelV yv u) (hb' : BltV s.heap u T) (me : Meth X.K C "__eq__" f)
    (nm : ∀ T ∈ bltN, PySem.W.mroIn X.K C (.type T) = some false)
    (F : FnG X.prog X.w X.K X.mg X.base k f fd ps sp) (hr : Room (k + 1) X.A) (hb : KBn X.K fd ps 2 [] g gV) (h : sp (gV [.ref a, yv] []) H (BlK Q) E0) : wpAny (model X.prog X.w) X.A (compareOp .Eq u (.ref a)) (EP X pins σ Q) X.xe s := by
  obtain ⟨mA, J, _⟩ := ins_get I.hok ha
  obtain ⟨od, J, _⟩ := J.look
  have hy : s.heap.get? a = some (PySem.W.instObj C dx) := (I.hok a _ ha).2.2.2.1
  have one : wpAny (model X.prog X.w) X.A (tryCompare (.ref a) "__eq__" u) (fun r s' => ∃ v, r = some v ∧ EP X pins σ Q v s') X.xe s := by
    unfold tryCompare
    refine wpAny_bind (PySem.W.ifBound_K I.kIn J me.at_ me.fn (wpAny_mono (run_in (A := X.A) gd rfl ⟨hr.hd, by have := hr.dp; omega, by have := hr.un; omega⟩ F hb I (vs := [.ref a, yv]) (us := [.ref a, u]) (.cons rfl (.cons ry .nil)) rfl h) ?_ fun _ _ e => e))
    rintro v s' ⟨x, H', I', rv, z, rfl, q⟩
    obtain rfl := rv
    exact wpAny_pure ⟨_, rfl, .bl z, H', I', rfl, q⟩
  show wpAny _ _ (richCompare .Eq u (.ref a)) _ _ _
  simp only [richCompare, show cmpInfo CmpOp.Eq = (("==" : String), ("__eq__" : Str), ("__eq__" : Str)) from rfl, hb'.typeIs.oneThing_none]
  refine wpAny_holding (wpAny_bind (wpAny_cRoomFor (by omega) ?_))
  refine wpAny_bind (wpAny_typeOf hb'.typeIs (wpAny_bind (J.type.here ?_)))
  rw [show (Value.type T != Value.ref C) = true from by simp]
  simp only [if_true]
  refine wpAny_bind ((PySem.W.looks_mroIn I.kIn (nm T hb'.mem)).here ?_)
  simp only [Bool.false_eq_true, if_false, Bool.not_false, if_true]
  refine wpAny_bind (m := tryCompare u _ (.ref a)) (decl_eq hb' hy nm I.kIn ?_)
  refine wpAny_bind (m := tryCompare (.ref a) _ u) (wpAny_mono one (fun r s' z => ?_) fun _ _ e => e)
  obtain ⟨v, rfl, hq⟩ := z
  exact wpAny_pure hq
theorem neA_go (gd : X.A.guards = some []) (un : X.A.units + 128 < cLine) (I : Inv X pins σ H s) (ha : H a = some (.ins C dx fs)) (ry : RelV yv u) (me : Meth X.K C "__eq__" f)
    (hne : PySem.W.findIn X.K (.ref C) "__ne__" = some (some (.builtin "object.__ne__"))) (hm : PySem.W.mroIn X.K C (.type "object") = some true)
    (F : FnG X.prog X.w X.K X.mg X.base k f fd ps sp) (hr : Room (k + 1) X.A) (hb : KBn X.K fd ps 2 [] g gV) (h : sp (gV [.ref a, yv] []) H (BlN Q) E0) : wpAny (model X.prog X.w) X.A (tryCompare (.ref a) "__ne__" u) (fun r s' => ∃ v, r = some v ∧ EP X pins σ Q v s') X.xe s := by
  obtain ⟨mA, J, _⟩ := ins_get I.hok ha
  obtain ⟨od, J, _⟩ := J.look
  have XK := I.kIn
  have FB := PySem.F.cmp_object
  have sub : PySem.W.Looks (model X.prog X.w) s.heap (isInstance (.ref a) (.type "object")) true := J.type.andThen (PySem.W.looks_mroIn XK hm)
  have inner : wpAny (model X.prog X.w) X.A.in1 (call (.ref f) [.ref a, u]) (fun v s' => ∃ z, v = .bool z ∧ EP X pins σ Q (.bool (!z)) s') X.xe s := by
    refine wpAny_mono (run_in (A := X.A.in1) gd rfl hr.in1 F hb I (vs := [.ref a, yv]) (us := [.ref a, u]) (.cons rfl (.cons ry .nil)) rfl h) ?_ fun _ _ e => e
    rintro v s' ⟨x, H', I', rv, z, rfl, q⟩
    obtain rfl := rv
    exact ⟨z, rfl, .bl (!z), H', I', rfl, q⟩
  have entry : wpAny (model X.prog X.w) X.A.in1 (Builtin.«object.__ne__» ⟨[.ref a, u], []⟩) (fun fin s' => ∃ v, fin = .done (.ret v) ∧ v ≠ .notImplemented ∧ EP X pins σ Q v s') X.xe s := by
    unfold Builtin.«object.__ne__»
    refine wpAny_bind (wpAny_of_eq (a := ((Value.ref a : Value), [u])) (by first | rfl | (simp only [slotArgs]; rfl)) ?_)
    refine wpAny_bind (wpAny_cRoomFor (by show X.A.units + 1 < cLine; omega) ?_)
    refine wpAny_bind (PySem.W.ifBound_K XK J me.at_ me.fn (wpAny_mono inner (fun v s' hv => ?_) fun _ _ e => e))
    obtain ⟨z, rfl, q⟩ := hv
    refine wpAny_bind (m := truthy (.bool z)) (wpAny_truthy_bool ?_)
    exact wpAny_pure ⟨_, rfl, by simp, q⟩
  have one : wpAny (model X.prog X.w) X.A (tryCompare (.ref a) "__ne__" u) (fun r s' => ∃ v, r = some v ∧ EP X pins σ Q v s') X.xe s := by
    unfold tryCompare
    refine wpAny_bind ?_
    simp only [callSpecialIfBound?, bindSpecialIfBound?]
    refine wpAny_holding (wpAny_bind (wpAny_bind (wpAny_bind (J.type.here ((PySem.W.looks_findIn XK hne).here ?_)))))
    simp only [FB.ne.bind]
    refine wpAny_bind (wpAny_askSetting (wpAny_ite ?_))
    have go : wpAny (model X.prog X.w) X.A (call (.builtin "object.__ne__") ([.ref a] ++ [u])) (fun v s' => v ≠ .notImplemented ∧ EP X pins σ Q v s') X.xe s := by
      refine wpAny_call (codeAny_call_builtin FB.ne.plain PySem.F.cmpEntry_ne (PySem.W.check_slot PySem.F.cmpKind_ne PySem.F.cmpSplit_ne sub (PySem.F.cmpArgs_ne _ _) (wpAny_mono entry (fun fin s' hv => ?_) fun _ _ e => e)))
      obtain ⟨v, rfl, hn, q⟩ := hv
      exact ⟨hn, q⟩
    have fin : wpAny (model X.prog X.w) X.A (call (.builtin "object.__ne__") ([.ref a] ++ [u]) >>= fun v => pure (some v)) (fun r s' => ∃ v, r = some v ∧ v ≠ .notImplemented ∧ EP X pins σ Q v s') X.xe s :=
      wpAny_bind (wpAny_mono go (fun v s' h' => wpAny_pure ⟨v, rfl, h'⟩) fun _ _ h' => h')
    have back : ∀ (r : Option Value) (s' : Shared), (∃ v, r = some v ∧ v ≠ .notImplemented ∧ EP X pins σ Q v s') → wpAny (model X.prog X.w) X.A (match r with
        | some .notImplemented | none => pure none
        | some v => pure (some v) : Sem (Option Value)) (fun r s' => ∃ v, r = some v ∧ EP X pins σ Q v s') X.xe s' := by
      rintro r s' ⟨v, rfl, hn, q⟩
      cases v <;> first | exact absurd rfl hn | exact wpAny_pure ⟨_, rfl, q⟩
    have fin2 := wpAny_mono fin back fun _ _ e => e
    split
    · exact wpAny_bind (wpAny_pure (wpAny_pure fin2))
    · exact wpAny_tryCatch (wpAny_bind (wpAny_pure (wpAny_pure fin2)))
  exact one
theorem neB_go (gd : X.A.guards = some []) (un : X.A.units + 128 < cLine) (I : Inv X pins σ H s) (ha : H a = some (.ins C dx fs)) (ry : RelV yv u) (hb' : BltV s.heap u T) (me : Meth X.K C "__eq__" f)
    (hne : PySem.W.findIn X.K (.ref C) "__ne__" = some (some (.builtin "object.__ne__"))) (hm : PySem.W.mroIn X.K C (.type "object") = some true)
    (F : FnG X.prog X.w X.K X.mg X.base k f fd ps sp) (hr : Room (k + 1) X.A) (hb : KBn X.K fd ps 2 [] g gV) (h : sp (gV [.ref a, yv] []) H (BlN Q) E0) : wpAny (model X.prog X.w) X.A (compareOp .NotEq (.ref a) u) (EP X pins σ Q) X.xe s := by
  have one := neA_go gd un I ha ry me hne hm F hr hb h
  obtain ⟨mA, J, _⟩ := ins_get I.hok ha
  obtain ⟨od, J, _⟩ := J.look
  show wpAny _ _ (richCompare .NotEq (.ref a) u) _ _ _
  simp only [richCompare, show cmpInfo CmpOp.NotEq = (("!=" : String), ("__ne__" : Str), ("__ne__" : Str)) from rfl, oneThing_ref]
  refine wpAny_holding (wpAny_bind (wpAny_cRoomFor (by omega) ?_))
  refine wpAny_bind (J.type.here (wpAny_bind (wpAny_typeOf hb'.typeIs ?_)))
  rw [show (Value.ref C != Value.type T) = true from by simp]
  simp only [if_true]
  refine wpAny_bind ((PySem.W.looks_subIn I.kIn (sub_blt T hb'.mem)).here ?_)
  simp only [Bool.false_eq_true, if_false]
  refine wpAny_bind (m := tryCompare (.ref a) _ u) (wpAny_mono one (fun r s' z => ?_) fun _ _ e => e)
  obtain ⟨v, rfl, hq⟩ := z
  exact wpAny_pure hq
theorem neL_go (gd : X.A.guards = some []) (un : X.A.units + 128 < cLine) (I : Inv X pins σ H s) (ha : H a = some (.ins C dx fs)) (ry : RelV yv u) (hb' : BltV s.heap u T) (me : Meth X.K C "__eq__" f)
    (nm : ∀ T ∈ bltN, PySem.W.mroIn X.K C (.type T) = some false)
    (hne : PySem.W.findIn X.K (.ref C) "__ne__" = some (some (.builtin "object.__ne__"))) (hm : PySem.W.mroIn X.K C (.type "object") = some true)
    (F : FnG X.prog X.w X.K X.mg X.base k f fd ps sp) (hr : Room (k + 1) X.A) (hb : KBn X.K fd ps 2 [] g gV) (h : sp (gV [.ref a, yv] []) H (BlN Q) E0) : wpAny (model X.prog X.w) X.A (compareOp .NotEq u (.ref a)) (EP X pins σ Q) X.xe s := by
  have one := neA_go gd un I ha ry me hne hm F hr hb h
  obtain ⟨mA, J, _⟩ := ins_get I.hok ha
  obtain ⟨od, J, _⟩ := J.look
  have hy : s.heap.get? a = some (PySem.W.instObj C dx) := (I.hok a _ ha).2.2.2.1
  show wpAny _ _ (richCompare .NotEq u (.ref a)) _ _ _
  simp only [richCompare, show cmpInfo CmpOp.NotEq = (("!=" : String), ("__ne__" : Str), ("__ne__" : Str)) from rfl, hb'.typeIs.oneThing_none]
  refine wpAny_holding (wpAny_bind (wpAny_cRoomFor (by omega) ?_))
  refine wpAny_bind (wpAny_typeOf hb'.typeIs (wpAny_bind (J.type.here ?_)))
  rw [show (Value.type T != Value.ref C) = true from by simp]
  simp only [if_true]
  refine wpAny_bind ((PySem.W.looks_mroIn I.kIn (nm T hb'.mem)).here ?_)
  simp only [Bool.false_eq_true, if_false, Bool.not_false, if_true]
  refine wpAny_bind (m := tryCompare u _ (.ref a)) (decl_ne hb' hy nm I.kIn ?_)
  refine wpAny_bind (m := tryCompare (.ref a) _ u) (wpAny_mono one (fun r s' z => ?_) fun _ _ e => e)
  obtain ⟨v, rfl, hq⟩ := z
  exact wpAny_pure hq
end
end Pm
end
section
set_option Elab.async false
set_option linter.all false
set_option maxHeartbeats 2000000
/-! Pm9: what a context knows; primitives in the text. -/
namespace Pm
open PySem PySem.Spec PyProof.Rows L2

/-- a def's promise: what the small evaluator says of its call -/
def spC (G : Gx) (m : List U → M U) : Sp := fun vs H Q _ => ∃ B ρ S us, RelS G B ρ S H ∧ RepUs G B ρ S H us vs ∧ FinG G B (RpU G) Q ρ S H (m us S)
def ShOk (G : Gx) (X : Cx) (m : List U → M U) (n : Nat) (ks : List Str) (bd : List (Sum Nat Dfl)) (fa : Addr) : Prop :=
  ∃ (fd : FuncData) (ps : List Str) (k : Nat) (g : List Value → List Value → List Value) (gV : List V → List V → List V),
    FnG X.prog X.w X.K X.mg X.base k fa fd ps (spC G m) ∧ Room k X.A ∧ KBn X.K fd ps n ks g gV ∧
    ∀ B ρ S H us zs vs vz us2, us.length = n → RepUs G B ρ S H us vs → RepUs G B ρ S H zs vz → bindA bd (us ++ zs) = some us2 → RepUs G B ρ S H us2 (gV vs vz)
def ShNew (G : Gx) (X : Cx) (m : List U → M U) (n : Nat) (ks : List Str) (bd : List (Sum Nat Dfl)) (fa : Addr) : Prop :=
  ∃ (fd : FuncData) (ps : List Str) (k : Nat) (g : List Value → List Value → List Value) (gV : List V → List V → List V),
    FnG X.prog X.w X.K X.mg X.base k fa fd ps (spC G m) ∧ Room (k + 1) X.A ∧ KBn X.K fd ps (n + 1) ks g gV ∧
    ∀ B ρ S H u0 v0 us zs vs vz us2, us.length = n → RepU G B ρ S H u0 v0 → RepUs G B ρ S H us vs → RepUs G B ρ S H zs vz → bindA bd (us ++ zs) = some us2 → RepUs G B ρ S H (u0 :: us2) (gV (v0 :: vs) vz)
def ShSp (G : Gx) (X : Cx) (m : List U → M U) (n : Nat) (fa : Addr) : Prop :=
  ∃ (fd : FuncData) (ps : List Str) (k : Nat) (g : List Value → List Value → List Value) (gV : List V → List V → List V),
    FnG X.prog X.w X.K X.mg X.base k fa fd ps (spC G m) ∧ Room (k + 1) X.A ∧ KBn X.K fd ps n [] g gV ∧ ∀ B ρ S H us vs, us.length = n → RepUs G B ρ S H us vs → RepUs G B ρ S H us (gV vs [])
def specN : List (String × String × Nat) := [(".__repr__", "__repr__", 1), (".__str__", "__str__", 1), (".__eq__", "__eq__", 2)]
def tvG (G : Gx) (t : String) : Value := match G.cA t with
  | some a => .ref a
  | none => .type t
def tagOk (G : Gx) (t : String) : Prop := t ∈ ["NoneType", "bool", "int", "str", "tuple", "list", "dict"] ∧ G.cA t = none ∨ (G.cA t).isSome = true
structure OwnF (D : Ds) (K : PySem.W.Frag) (Ca : Addr) : Prop where
  cl : Cls K Ca
  ha : PySem.W.findIn K (.ref Ca) "__class__" = some (some (.builtin "object.__class__"))
  hn : PySem.W.specialIn K (.builtin "object.__class__") "__get__" = some (some (.builtin "getset_descriptor.__get__"))
  htk : PySem.W.takesIn K (.builtin "object.__class__") = some true
  hm : PySem.W.mroIn K Ca (.type "object") = some true
  na : ∀ f, D.flds.contains f = true → NoAttr K Ca f
  ne : PySem.W.findIn K (.ref Ca) "__ne__" = some (some (.builtin "object.__ne__"))
  nb : ∀ T ∈ bltN, PySem.W.mroIn K Ca (.type T) = some false
structure XP (G : Gx) (F : Cf) (D : Ds) (X : Cx) (N : List Str) (sc : Scope) : Prop extends XOk G X N sc where
  free : ∀ x, D.free.contains x = true → X.mg x = none
  glb : ∀ x, D.globs.contains x = true → ∀ w, F.glob x = some w → ∃ u v, X.mg (Str.ofString x) = some u ∧ RelV v u ∧ ∀ Z H, Rep G Z H w v
  tys : ∀ t, D.tys.contains t = true → (∃ Ca, G.cA t = some Ca ∧ X.mg (Str.ofString t) = some (.ref Ca)) ∨ (G.cA t = none ∧ X.mg (Str.ofString t) = none ∧ bootBuiltins (Str.ofString t) = some (.type t) ∧ Str.ofString t ≠ "__name__" ∧ (Str.ofString t == ("__debug__" : Str)) = false)
  tyd : ∀ t, D.tys.contains t = true → (Str.ofString t == ("__debug__" : Str)) = false
  kit : ∀ t c, tagOk G t → D.tys.contains c = true → PySem.W.kitOne X.K (tvG G t) (tvG G c) = some (subT t c)
  tag0 : ∀ t ∈ ["NoneType", "bool", "int", "str", "tuple", "list", "dict"], G.cA t = none
  own : ∀ C Ca, G.cA C = some Ca → OwnF D X.K Ca
  fcall : ∀ f x n ks bd, D.fname f = some x → D.shp.contains (f, n, ks, bd) = true → ∃ fa, X.mg x = some (.ref fa) ∧ PySem.W.keepIn X.K (.ref fa) = true ∧ ShOk G X (F.call f) n ks bd fa
  fmeth : ∀ f C m n ks bd, D.meth f = some (C, m) → D.shp.contains (f, n, ks, bd) = true → ∃ fa Ca, G.cA C = some Ca ∧ Meth X.K Ca m fa ∧ ShOk G X (F.call f) (n + 1) ks bd fa
  spec : ∀ C Ca q, q ∈ specN → G.cA C = some Ca → (∀ us, F.call (C ++ q.1) us = badM) ∨ ∃ fa, Meth X.K Ca (Str.ofString q.2.1) fa ∧ ShSp G X (F.call (C ++ q.1)) q.2.2 fa
  fnew : ∀ C x n ks bd, D.cname C = some x → D.shp.contains (C, n, ks, bd) = true → ∃ fa Ca, G.cA C = some Ca ∧ X.mg x = some (.ref Ca) ∧ Mk X.K Ca fa ∧ ShNew G X (F.call (C ++ ".__init__")) n ks bd fa

section
variable {G : Gx} {F : Cf} {D : Ds} {X : Cx} {N : List Str} {sc : Scope}
theorem gl_of (x0 : XOk G X N sc) {x : Str} (h : gloB sc x = true) : Gl X x := by
  unfold gloB at h
  show X.env.scope.names.lookup x = some .globalImplicit
  split at h
  · rename_i e
    rcases x0.ss x _ e with k | ⟨k, _⟩
    · exact k
    · cases k
  · cases h
def AllPE (G : Gx) (F : Cf) (X : Cx) : List Ex → List Expr → Prop
  | [], [] => True
  | a :: as, e :: es => PE X e (rdE G (evE F a)) ∧ AllPE G F X as es
  | _, _ => False
theorem pa_of : ∀ {as : List Ex} {es : List Expr}, AllPE G F X as es → es.all (fun e => !isStar e) = true → PA X es (rdA G (evEs F as))
  | [], [], _, _ => PA.imp pa_nil (by simp only [evEs]; exact rd_nil)
  | a :: as, e :: es, h, hs => by
    simp only [List.all_cons, Bool.and_eq_true, Bool.not_eq_true'] at hs
    exact PA.imp (pa_cons h.1 (pa_of h.2 hs.2) (star_cons hs.1)) (by simp only [evEs]; exact rd_cons)
  | [], _ :: _, h, _ => h.elim
  | _ :: _, [], h, _ => h.elim
theorem pk_of : ∀ {as : List Ex} {kws : List Keyword}, AllPE G F X as (kws.map (·.value)) → PK X kws (rdA G (evEs F as))
  | [], [], _ => PK.imp pk_nil (by simp only [evEs]; exact rd_nil)
  | a :: as, ⟨n, e, p⟩ :: kws, h => PK.imp (pk_cons h.1 (pk_of h.2)) (by simp only [evEs]; exact rd_cons)
  | [], _ :: _, h => h.elim
  | _ :: _, [], h => h.elim
theorem AllPE.split : ∀ {as : List Ex} {es fs : List Expr}, AllPE G F X as (es ++ fs) → ∃ a1 a2, as = a1 ++ a2 ∧ AllPE G F X a1 es ∧ AllPE G F X a2 fs ∧ a1.length = es.length
  | as, [], fs, h => ⟨[], as, rfl, trivial, h, rfl⟩
  | a :: as, e :: es, fs, h => by
    obtain ⟨a1, a2, e1, h1, h2, h3⟩ := AllPE.split (as := as) (es := es) (fs := fs) h.2
    exact ⟨a :: a1, a2, by simp [e1], ⟨h.1, h1⟩, h2, by simp [h3]⟩
  | [], e :: es, fs, h => h.elim
theorem ev_pr1 {p : Pr} {a : Ex} : evE F (.pr p [a]) = fun τ => M.bind (evE F a τ) fun u => prE F p [u] := by
  funext τ
  simp only [evE, evEs, bind_assoc', pure_bind']
theorem ev_pr2 {p : Pr} {a b : Ex} : evE F (.pr p [a, b]) = fun τ => M.bind (evE F a τ) fun u => M.bind (evE F b τ) fun v => prE F p [u, v] := by
  funext τ
  simp only [evE, evEs, bind_assoc', pure_bind']
theorem ev_prN {p : Pr} {as : List Ex} : evE F (.pr p as) = fun τ => M.bind (evEs F as τ) (prE F p) := by
  funext τ
  simp only [evE]
theorem eqOp_eq {a b : Operator} (h : eqOp a b = true) : a = b := by
  unfold eqOp at h
  cases a <;> cases b <;> first | rfl | (exfalso; revert h; decide)
theorem eqCop_eq {a b : CmpOp} (h : eqCop a b = true) : a = b := by
  unfold eqCop at h
  cases a <;> cases b <;> first | rfl | (exfalso; revert h; decide)
theorem AllPE.two {as : List Ex} {x y : Expr} (h : AllPE G F X as [x, y]) : ∃ a b, as = [a, b] ∧ PE X x (rdE G (evE F a)) ∧ PE X y (rdE G (evE F b)) := by
  match as, h with
  | [a, b], h => exact ⟨a, b, rfl, h.1, h.2.1⟩
  | [], h => exact h.elim
  | [_], h => exact h.2.elim
  | _ :: _ :: _ :: _, h => exact h.2.2.elim
theorem AllPE.one {as : List Ex} {x : Expr} (h : AllPE G F X as [x]) : ∃ a, as = [a] ∧ PE X x (rdE G (evE F a)) := by
  match as, h with
  | [a], h => exact ⟨a, rfl, h.1⟩
  | [], h => exact h.elim
  | _ :: _ :: _, h => exact h.2.elim
theorem bop_bin (x0 : XOk G X N sc) {p : Pr} {o : Operator} (h : bopOf p = some o) : Bin G X (binaryOp o) (fun u v => prE F p [u, v]) := by
  cases p <;> simp only [bopOf, Option.some.injEq, reduceCtorEq] at h <;> subst h
  · exact bin_add x0
  · exact bin_sub x0
  · exact bin_mul x0
  · exact bin_fdiv x0
  · exact bin_mod x0
  · exact bin_pow x0
/-- a value of a built-in kind, told by the layer -/
def BltR (K : PySem.W.Frag) (H : Hp) (y : V) : Prop := y = .non ∨ (∃ b, y = .bl b) ∨ (∃ i, y = .int i) ∨ (∃ z, y = .str z) ∨ ∃ b, y = .ref b ∧ ((∃ vs, SqT K H b vs) ∨ (∃ vs, SqL K H b vs) ∨ ∃ ks, H b = some (.dK ks))
theorem BltR.val {pins : List (Addr × Obj)} {s : Shared} {σ : L2.St} {H : Hp} {y : V} {u : Value} (b : BltR X.K H y) (I : Inv X pins σ H s) (r : RelV y u) : ∃ T, BltV s.heap u T := by
  rcases b with rfl | ⟨b, rfl⟩ | ⟨i, rfl⟩ | ⟨z, rfl⟩ | ⟨b, rfl, ⟨vs, h⟩ | ⟨vs, h⟩ | ⟨ks, h⟩⟩
  · cases r; exact ⟨_, rfl⟩
  · cases r; exact ⟨_, rfl⟩
  · obtain ⟨t, rfl⟩ := r; exact ⟨_, rfl⟩
  · obtain ⟨t, rfl⟩ := r; exact ⟨_, rfl⟩
  · obtain rfl : u = Value.ref b := r
    obtain ⟨its, _, ⟨⟨cls, dd, data, sl⟩, ho, hc, n, hd⟩, _⟩ := I.tuple h
    simp only at hc hd
    subst hc hd
    exact ⟨"tuple", .inl ⟨_, _, _, _, .inl rfl, ho⟩⟩
  · obtain rfl : u = Value.ref b := r
    obtain ⟨its, _, ⟨⟨cls, dd, data, sl⟩, n, ho, hc, _, hd⟩, _⟩ := I.list h
    simp only at hc hd
    subst hc hd
    exact ⟨"list", .inl ⟨_, _, _, _, .inr rfl, ho⟩⟩
  · obtain rfl : u = Value.ref b := r
    obtain ⟨_, _, vs, _, ⟨cls, dd, data, sl⟩, es, ep, ho, ⟨hc, _, _⟩, hd, _⟩ := I.hok b _ h
    simp only at hc hd
    subst hc hd
    exact ⟨"dict", .inr ⟨rfl, _, _, _, _, ho⟩⟩
theorem blt_rep {Z : Addr → Prop} {H : Hp} {w : W} {y : V} (r : Rep G Z H w y) (h : bltW w = true) : BltR G.K H y := by
  cases w <;> simp only [bltW, Bool.false_eq_true] at h
  · simp only [Rep] at r; exact .inl r
  · simp only [Rep] at r; exact .inr (.inl ⟨_, r⟩)
  · simp only [Rep] at r; exact .inr (.inr (.inl ⟨_, r⟩))
  · simp only [Rep] at r; exact .inr (.inr (.inr (.inl ⟨_, r⟩)))
  · simp only [Rep] at r; obtain ⟨a, vs, e, q, _⟩ := r; exact .inr (.inr (.inr (.inr ⟨a, e, .inl ⟨vs, q⟩⟩)))
  · simp only [Rep] at r; obtain ⟨a, vs, e, q, _⟩ := r; exact .inr (.inr (.inr (.inr ⟨a, e, .inr (.inl ⟨vs, .inl q⟩)⟩)))
  · simp only [Rep] at r; obtain ⟨a, ks, e, q, _⟩ := r; exact .inr (.inr (.inr (.inr ⟨a, e, .inr (.inr ⟨ks, q⟩)⟩)))
/-- == of data, or of two objects of one class by its own __eq__ -/
def rEqO (X : Cx) : R2 := fun x y H Q => rEqD X.K x y H Q ∨
  (∃ (a b C dx dy f : Addr) (fs gs : List (Str × V)) (k : Nat) (fd : FuncData) (ps : List Str) (sp : Sp) (g : List Value → List Value → List Value) (gV : List V → List V → List V), x = .ref a ∧ y = .ref b ∧ H a = some (.ins C dx fs) ∧ H b = some (.ins C dy gs) ∧ Meth X.K C "__eq__" f ∧
    FnG X.prog X.w X.K X.mg X.base k f fd ps sp ∧ Room (k + 1) X.A ∧ KBn X.K fd ps 2 [] g gV ∧ sp (gV [.ref a, .ref b] []) H (BlK Q) E0) ∨
  (∃ (a C dx f : Addr) (fs : List (Str × V)) (k : Nat) (fd : FuncData) (ps : List Str) (sp : Sp) (g : List Value → List Value → List Value) (gV : List V → List V → List V), x = .ref a ∧ H a = some (.ins C dx fs) ∧ BltR X.K H y ∧ Meth X.K C "__eq__" f ∧ FnG X.prog X.w X.K X.mg X.base k f fd ps sp ∧ Room (k + 1) X.A ∧ KBn X.K fd ps 2 [] g gV ∧ sp (gV [.ref a, y] []) H (BlK Q) E0) ∨
  (∃ (a C dx f : Addr) (fs : List (Str × V)) (k : Nat) (fd : FuncData) (ps : List Str) (sp : Sp) (g : List Value → List Value → List Value) (gV : List V → List V → List V), y = .ref a ∧ H a = some (.ins C dx fs) ∧ BltR X.K H x ∧ (∀ T ∈ bltN, PySem.W.mroIn X.K C (.type T) = some false) ∧ Meth X.K C "__eq__" f ∧ FnG X.prog X.w X.K X.mg X.base k f fd ps sp ∧ Room (k + 1) X.A ∧ KBn X.K fd ps 2 [] g gV ∧ sp (gV [.ref a, x] []) H (BlK Q) E0)
theorem op_eqO (x0 : XP G F D X N sc) : OpR X (compareOp .Eq) (rEqO X) := by
  intro pins s σ H x y v u Q I rx ry h
  rcases h with h | ⟨a, b, C, dx, dy, f, fs, gs, k, fd, ps, sp, g, gV, rfl, rfl, ha, hb', me, Fk, hr, hb, h⟩ | ⟨a, C, dx, f, fs, k, fd, ps, sp, g, gV, rfl, ha, hb', me, Fk, hr, hb, h⟩ | ⟨a, C, dx, f, fs, k, fd, ps, sp, g, gV, rfl, ha, hb', nm, me, Fk, hr, hb, h⟩
  · exact op_eqD (by have := x0.un; omega) pins s σ H x y v u Q I rx ry h
  · obtain rfl : v = Value.ref a := rx
    obtain rfl : u = Value.ref b := ry
    exact eqO_go x0.gd x0.un I ha hb' me Fk hr hb h
  · obtain rfl : v = Value.ref a := rx
    obtain ⟨T, bv⟩ := hb'.val I ry
    exact eqB_go x0.gd x0.un I ha ry bv me Fk hr hb h
  · obtain rfl : u = Value.ref a := ry
    obtain ⟨T, bv⟩ := hb'.val I rx
    exact eqL_go x0.gd x0.un I ha rx bv me nm Fk hr hb h
def own1 (u v : U) : Prop := (∃ C fs D gs, u = .p (.obj C fs) ∧ v = .p (.obj D gs)) ∨ (∃ C fs w, u = .p (.obj C fs) ∧ v = .p w ∧ bltW w = true) ∨ ∃ C fs w, u = .p w ∧ v = .p (.obj C fs) ∧ bltW w = true
theorem eqM_noF {f : String → List U → M U} {w w' : W} (h : ¬own1 (.p w) (.p w')) : eqM f w w' = eqM noF w w' := by
  unfold eqM
  by_cases hd : (dataW w && dataW w') = true
  · rw [if_pos hd, if_pos hd]
  · rw [if_neg hd, if_neg hd]
    cases w <;> cases w' <;> first
      | rfl
      | exact absurd (.inl ⟨_, _, _, _, rfl, rfl⟩) h
      | exact absurd (.inr (.inl ⟨_, _, _, rfl, rfl, rfl⟩)) h
      | exact absurd (.inr (.inr ⟨_, _, _, rfl, rfl, rfl⟩)) h
theorem eqF_data {a b : U} {S : Sto} (h : ¬own1 a b) : prE F .eq [a, b] S = (M.bind (rdU a) fun x => M.bind (rdU b) fun y => M.bind (eqM noF x y) fun r => okP (.bl r)) S := by
  match a, b with
  | .loc n, .loc m => rfl
  | .loc n, .p w => rfl
  | .p w, .loc n => rfl
  | .p w, .p w' =>
    have e : eqM F.call w w' = eqM noF w w' := eqM_noF h
    show (M.bind (eqM F.call w w') fun r => okP (.bl r)) S = (M.bind (eqM noF w w') fun r => okP (.bl r)) S
    rw [e]
theorem op2_eqO (x0 : XP G F D X N sc) : Op2 G (rEqO X) (fun u v => prE F .eq [u, v]) := by
  intro B ρ S H u v x y Q R r1 r2 q
  by_cases ho : ∃ C fs D gs, u = .p (.obj C fs) ∧ v = .p (.obj D gs)
  · obtain ⟨C, fs, D', gs, rfl, rfl⟩ := ho
    have h1 := r1
    have h2 := r2
    simp only [RepU, Rep] at h1 h2
    obtain ⟨a, Ca, dx, vs, rfl, c, ea, _⟩ := h1
    obtain ⟨b, Cb, dy, vs', rfl, c', eb, _⟩ := h2
    have q' : FinG G B (RpU G) Q ρ S H ((M.bind (eqM F.call (.obj C fs) (.obj D' gs)) fun r => okP (.bl r)) S) := q
    have e : eqM F.call (.obj C fs) (.obj D' gs) = if C = D' then M.bind (F.call (C ++ ".__eq__") [.p (.obj C fs), .p (.obj D' gs)]) fun v => (match v with
      | .p (.bl r) => fun S => .ok r S
      | _ => fun _ => .bad) else fun _ => .bad := rfl
    rw [e] at q'
    by_cases hc : C = D'
    · subst hc
      rw [if_pos rfl, bind_assoc'] at q'
      obtain rfl : Ca = Cb := by rw [c] at c'; cases c'; rfl
      rcases x0.spec C Ca (".__eq__", "__eq__", 2) (by decide) c with hb | ⟨fa, me, fd, ps, k, g, gV, Fk, hr, kb, hrep⟩
      · simp only [hb, M.bind] at q'
        exact q'.elim
      · refine .inr (.inl ⟨a, b, Ca, dx, dy, fa, _, _, k, fd, ps, _, g, gV, rfl, rfl, ea, eb, me, Fk, hr, kb, ?_⟩)
        refine ⟨B, ρ, S, _, R, hrep B ρ S H [.p (.obj C fs), .p (.obj C gs)] [.ref a, .ref b] rfl ⟨_, _, rfl, r1, _, _, rfl, r2, rfl⟩, ?_⟩
        refine (FinG.bind (Rp := RpU G) q').imp ?_
        rintro b H1 ⟨ρ1, S1, w, e1, R1, s1, r1, q1⟩
        match w, r1, q1 with
        | .p (.bl z), r1, q1 =>
          have e : b = .bl z := by simpa [RpU, RepU, Rep] using r1
          subst e
          exact ⟨z, rfl, q1.okU R1 (repB _)⟩
        | .p .non, _, q1 => exact q1.elim
        | .p (.str _), _, q1 => exact q1.elim
        | .p (.int _), _, q1 => exact q1.elim
        | .p (.ty _), _, q1 => exact q1.elim
        | .p (.fn _), _, q1 => exact q1.elim
        | .p (.tup _), _, q1 => exact q1.elim
        | .p (.lst _), _, q1 => exact q1.elim
        | .p (.dct _), _, q1 => exact q1.elim
        | .p (.obj _ _), _, q1 => exact q1.elim
        | .loc _, _, q1 => exact q1.elim
    · rw [if_neg hc] at q'
      exact q'.elim
  by_cases hR : ∃ C fs w, u = .p (.obj C fs) ∧ v = .p w ∧ bltW w = true
  · obtain ⟨C, fs, w, rfl, rfl, hbl⟩ := hR
    have h1 := r1
    simp only [RepU, Rep] at h1
    obtain ⟨a, Ca, dx, vs, rfl, c, ea, _⟩ := h1
    have hB : BltR X.K H y := by
      rw [x0.kk]
      exact blt_rep r2 hbl
    have e : eqM F.call (.obj C fs) w = M.bind (F.call (C ++ ".__eq__") [.p (.obj C fs), .p w]) fun v => (match v with
      | .p (.bl r) => fun S => .ok r S
      | _ => fun _ => .bad) := by
      have e2 : eqM F.call (.obj C fs) w = eqB1 F.call C fs w := by
        unfold eqM
        rw [if_neg (by simp [dataW, dataN])]
        cases w <;> first | rfl | (simp only [bltW, Bool.false_eq_true] at hbl)
      rw [e2]
      unfold eqB1
      exact if_pos hbl
    have q' : FinG G B (RpU G) Q ρ S H ((M.bind (eqM F.call (.obj C fs) w) fun r => okP (.bl r)) S) := q
    rw [e, bind_assoc'] at q'
    rcases x0.spec C Ca (".__eq__", "__eq__", 2) (by decide) c with hb | ⟨fa, me, fd, ps, k, g, gV, Fk, hr, kb, hrep⟩
    · simp only [hb, M.bind] at q'
      exact q'.elim
    · refine .inr (.inr (.inl ⟨a, Ca, dx, fa, _, k, fd, ps, _, g, gV, rfl, ea, hB, me, Fk, hr, kb, ?_⟩))
      refine ⟨B, ρ, S, _, R, hrep B ρ S H [.p (.obj C fs), .p w] [.ref a, y] rfl ⟨_, _, rfl, r1, _, _, rfl, r2, rfl⟩, ?_⟩
      refine (FinG.bind (Rp := RpU G) q').imp ?_
      rintro b H1 ⟨ρ1, S1, w, e1, R1, s1, r1, q1⟩
      match w, r1, q1 with
      | .p (.bl z), r1, q1 =>
        have e : b = .bl z := by simpa [RpU, RepU, Rep] using r1
        subst e
        exact ⟨z, rfl, q1.okU R1 (repB _)⟩
      | .p .non, _, q1 => exact q1.elim
      | .p (.str _), _, q1 => exact q1.elim
      | .p (.int _), _, q1 => exact q1.elim
      | .p (.ty _), _, q1 => exact q1.elim
      | .p (.fn _), _, q1 => exact q1.elim
      | .p (.tup _), _, q1 => exact q1.elim
      | .p (.lst _), _, q1 => exact q1.elim
      | .p (.dct _), _, q1 => exact q1.elim
      | .p (.obj _ _), _, q1 => exact q1.elim
      | .loc _, _, q1 => exact q1.elim
  by_cases hL : ∃ C fs w, u = .p w ∧ v = .p (.obj C fs) ∧ bltW w = true
  · obtain ⟨C, fs, w, rfl, rfl, hbl⟩ := hL
    have h1 := r2
    simp only [RepU, Rep] at h1
    obtain ⟨a, Ca, dx, vs, rfl, c, ea, _⟩ := h1
    have hB : BltR X.K H x := by
      rw [x0.kk]
      exact blt_rep r1 hbl
    have e : eqM F.call w (.obj C fs) = M.bind (F.call (C ++ ".__eq__") [.p (.obj C fs), .p w]) fun v => (match v with
      | .p (.bl r) => fun S => .ok r S
      | _ => fun _ => .bad) := by
      have e2 : eqM F.call w (.obj C fs) = eqB1 F.call C fs w := by
        unfold eqM
        rw [if_neg (by simp [dataW, dataN])]
        cases w <;> first | rfl | (simp only [bltW, Bool.false_eq_true] at hbl)
      rw [e2]
      unfold eqB1
      exact if_pos hbl
    have q' : FinG G B (RpU G) Q ρ S H ((M.bind (eqM F.call w (.obj C fs)) fun r => okP (.bl r)) S) := q
    rw [e, bind_assoc'] at q'
    rcases x0.spec C Ca (".__eq__", "__eq__", 2) (by decide) c with hb | ⟨fa, me, fd, ps, k, g, gV, Fk, hr, kb, hrep⟩
    · simp only [hb, M.bind] at q'
      exact q'.elim
    · refine .inr (.inr (.inr ⟨a, Ca, dx, fa, _, k, fd, ps, _, g, gV, rfl, ea, hB, (x0.own C Ca c).nb, me, Fk, hr, kb, ?_⟩))
      refine ⟨B, ρ, S, _, R, hrep B ρ S H [.p (.obj C fs), .p w] [.ref a, x] rfl ⟨_, _, rfl, r2, _, _, rfl, r1, rfl⟩, ?_⟩
      refine (FinG.bind (Rp := RpU G) q').imp ?_
      rintro b H1 ⟨ρ1, S1, w, e1, R1, s1, r1, q1⟩
      match w, r1, q1 with
      | .p (.bl z), r1, q1 =>
        have e : b = .bl z := by simpa [RpU, RepU, Rep] using r1
        subst e
        exact ⟨z, rfl, q1.okU R1 (repB _)⟩
      | .p .non, _, q1 => exact q1.elim
      | .p (.str _), _, q1 => exact q1.elim
      | .p (.int _), _, q1 => exact q1.elim
      | .p (.ty _), _, q1 => exact q1.elim
      | .p (.fn _), _, q1 => exact q1.elim
      | .p (.tup _), _, q1 => exact q1.elim
      | .p (.lst _), _, q1 => exact q1.elim
      | .p (.dct _), _, q1 => exact q1.elim
      | .p (.obj _ _), _, q1 => exact q1.elim
      | .loc _, _, q1 => exact q1.elim
  have ho1 : ¬own1 u v := fun z => by
    rcases z with z | z | z
    · exact ho z
    · exact hR z
    · exact hL z
  refine .inl ?_
  have q' : FinG G B (RpU G) Q ρ S H (prE F .eq [u, v] S) := q
  rw [eqF_data ho1] at q'
  rw [x0.kk]
  exact op2_eq B ρ S H u v x y Q R r1 r2 q'
/-- != -/
def rNeO (X : Cx) : R2 := fun x y H Q => rNeD X.K x y H Q ∨
  (∃ (a b C dx dy f : Addr) (fs gs : List (Str × V)) (k : Nat) (fd : FuncData) (ps : List Str) (sp : Sp) (g : List Value → List Value → List Value) (gV : List V → List V → List V), x = .ref a ∧ y = .ref b ∧ H a = some (.ins C dx fs) ∧ H b = some (.ins C dy gs) ∧ Meth X.K C "__eq__" f ∧ PySem.W.findIn X.K (.ref C) "__ne__" = some (some (.builtin "object.__ne__")) ∧ PySem.W.mroIn X.K C (.type "object") = some true ∧
    FnG X.prog X.w X.K X.mg X.base k f fd ps sp ∧ Room (k + 1) X.A ∧ KBn X.K fd ps 2 [] g gV ∧ sp (gV [.ref a, .ref b] []) H (BlN Q) E0) ∨
  (∃ (a C dx f : Addr) (fs : List (Str × V)) (k : Nat) (fd : FuncData) (ps : List Str) (sp : Sp) (g : List Value → List Value → List Value) (gV : List V → List V → List V), x = .ref a ∧ H a = some (.ins C dx fs) ∧ BltR X.K H y ∧ Meth X.K C "__eq__" f ∧ PySem.W.findIn X.K (.ref C) "__ne__" = some (some (.builtin "object.__ne__")) ∧ PySem.W.mroIn X.K C (.type "object") = some true ∧ FnG X.prog X.w X.K X.mg X.base k f fd ps sp ∧ Room (k + 1) X.A ∧ KBn X.K fd ps 2 [] g gV ∧ sp (gV [.ref a, y] []) H (BlN Q) E0) ∨
  (∃ (a C dx f : Addr) (fs : List (Str × V)) (k : Nat) (fd : FuncData) (ps : List Str) (sp : Sp) (g : List Value → List Value → List Value) (gV : List V → List V → List V), y = .ref a ∧ H a = some (.ins C dx fs) ∧ BltR X.K H x ∧ (∀ T ∈ bltN, PySem.W.mroIn X.K C (.type T) = some false) ∧ Meth X.K C "__eq__" f ∧ PySem.W.findIn X.K (.ref C) "__ne__" = some (some (.builtin "object.__ne__")) ∧ PySem.W.mroIn X.K C (.type "object") = some true ∧ FnG X.prog X.w X.K X.mg X.base k f fd ps sp ∧ Room (k + 1) X.A ∧ KBn X.K fd ps 2 [] g gV ∧ sp (gV [.ref a, x] []) H (BlN Q) E0)
theorem op_neO (x0 : XP G F D X N sc) : OpR X (compareOp .NotEq) (rNeO X) := by
  intro pins s σ H x y v u Q I rx ry h
  rcases h with h | ⟨a, b, C, dx, dy, f, fs, gs, k, fd, ps, sp, g, gV, rfl, rfl, ha, hb', me, hne, hmr, Fk, hr, hb, h⟩ | ⟨a, C, dx, f, fs, k, fd, ps, sp, g, gV, rfl, ha, hb', me, hne, hmr, Fk, hr, hb, h⟩ | ⟨a, C, dx, f, fs, k, fd, ps, sp, g, gV, rfl, ha, hb', nm, me, hne, hmr, Fk, hr, hb, h⟩
  · exact op_neD (by have := x0.un; omega) pins s σ H x y v u Q I rx ry h
  · obtain rfl : v = Value.ref a := rx
    obtain rfl : u = Value.ref b := ry
    exact neO_go x0.gd x0.un I ha hb' me hne hmr Fk hr hb h
  · obtain rfl : v = Value.ref a := rx
    obtain ⟨T, bv⟩ := hb'.val I ry
    exact neB_go x0.gd x0.un I ha ry bv me hne hmr Fk hr hb h
  · obtain rfl : u = Value.ref a := ry
    obtain ⟨T, bv⟩ := hb'.val I rx
    exact neL_go x0.gd x0.un I ha rx bv me nm hne hmr Fk hr hb h
theorem neF_data {a b : U} {S : Sto} (h : ¬own1 a b) : prE F .ne [a, b] S = (M.bind (rdU a) fun x => M.bind (rdU b) fun y => M.bind (eqM noF x y) fun r => okP (.bl (!r))) S := by
  match a, b with
  | .loc n, .loc m => rfl
  | .loc n, .p w => rfl
  | .p w, .loc n => rfl
  | .p w, .p w' =>
    have e : eqM F.call w w' = eqM noF w w' := eqM_noF h
    show (M.bind (eqM F.call w w') fun r => okP (.bl (!r))) S = (M.bind (eqM noF w w') fun r => okP (.bl (!r))) S
    rw [e]
theorem op2_neO (x0 : XP G F D X N sc) : Op2 G (rNeO X) (fun u v => prE F .ne [u, v]) := by
  intro B ρ S H u v x y Q R r1 r2 q
  by_cases ho : ∃ C fs D gs, u = .p (.obj C fs) ∧ v = .p (.obj D gs)
  · obtain ⟨C, fs, D', gs, rfl, rfl⟩ := ho
    have h1 := r1
    have h2 := r2
    simp only [RepU, Rep] at h1 h2
    obtain ⟨a, Ca, dx, vs, rfl, c, ea, _⟩ := h1
    obtain ⟨b, Cb, dy, vs', rfl, c', eb, _⟩ := h2
    have q' : FinG G B (RpU G) Q ρ S H ((M.bind (eqM F.call (.obj C fs) (.obj D' gs)) fun r => okP (.bl (!r))) S) := q
    have e : eqM F.call (.obj C fs) (.obj D' gs) = if C = D' then M.bind (F.call (C ++ ".__eq__") [.p (.obj C fs), .p (.obj D' gs)]) fun v => (match v with
      | .p (.bl r) => fun S => .ok r S
      | _ => fun _ => .bad) else fun _ => .bad := rfl
    rw [e] at q'
    by_cases hc : C = D'
    · subst hc
      rw [if_pos rfl, bind_assoc'] at q'
      obtain rfl : Ca = Cb := by rw [c] at c'; cases c'; rfl
      rcases x0.spec C Ca (".__eq__", "__eq__", 2) (by decide) c with hb | ⟨fa, me, fd, ps, k, g, gV, Fk, hr, kb, hrep⟩
      · simp only [hb, M.bind] at q'
        exact q'.elim
      · refine .inr (.inl ⟨a, b, Ca, dx, dy, fa, _, _, k, fd, ps, _, g, gV, rfl, rfl, ea, eb, me, (x0.own C Ca c).ne, (x0.own C Ca c).hm, Fk, hr, kb, ?_⟩)
        refine ⟨B, ρ, S, _, R, hrep B ρ S H [.p (.obj C fs), .p (.obj C gs)] [.ref a, .ref b] rfl ⟨_, _, rfl, r1, _, _, rfl, r2, rfl⟩, ?_⟩
        refine (FinG.bind (Rp := RpU G) q').imp ?_
        rintro b H1 ⟨ρ1, S1, w, e1, R1, s1, r1, q1⟩
        match w, r1, q1 with
        | .p (.bl z), r1, q1 =>
          have e : b = .bl z := by simpa [RpU, RepU, Rep] using r1
          subst e
          exact ⟨z, rfl, q1.okU R1 (repB _)⟩
        | .p .non, _, q1 => exact q1.elim
        | .p (.str _), _, q1 => exact q1.elim
        | .p (.int _), _, q1 => exact q1.elim
        | .p (.ty _), _, q1 => exact q1.elim
        | .p (.fn _), _, q1 => exact q1.elim
        | .p (.tup _), _, q1 => exact q1.elim
        | .p (.lst _), _, q1 => exact q1.elim
        | .p (.dct _), _, q1 => exact q1.elim
        | .p (.obj _ _), _, q1 => exact q1.elim
        | .loc _, _, q1 => exact q1.elim
    · rw [if_neg hc] at q'
      exact q'.elim
  by_cases hR : ∃ C fs w, u = .p (.obj C fs) ∧ v = .p w ∧ bltW w = true
  · obtain ⟨C, fs, w, rfl, rfl, hbl⟩ := hR
    have h1 := r1
    simp only [RepU, Rep] at h1
    obtain ⟨a, Ca, dx, vs, rfl, c, ea, _⟩ := h1
    have hB : BltR X.K H y := by
      rw [x0.kk]
      exact blt_rep r2 hbl
    have e : eqM F.call (.obj C fs) w = M.bind (F.call (C ++ ".__eq__") [.p (.obj C fs), .p w]) fun v => (match v with
      | .p (.bl r) => fun S => .ok r S
      | _ => fun _ => .bad) := by
      have e2 : eqM F.call (.obj C fs) w = eqB1 F.call C fs w := by
        unfold eqM
        rw [if_neg (by simp [dataW, dataN])]
        cases w <;> first | rfl | (simp only [bltW, Bool.false_eq_true] at hbl)
      rw [e2]
      unfold eqB1
      exact if_pos hbl
    have q' : FinG G B (RpU G) Q ρ S H ((M.bind (eqM F.call (.obj C fs) w) fun r => okP (.bl (!r))) S) := q
    rw [e, bind_assoc'] at q'
    rcases x0.spec C Ca (".__eq__", "__eq__", 2) (by decide) c with hb | ⟨fa, me, fd, ps, k, g, gV, Fk, hr, kb, hrep⟩
    · simp only [hb, M.bind] at q'
      exact q'.elim
    · refine .inr (.inr (.inl ⟨a, Ca, dx, fa, _, k, fd, ps, _, g, gV, rfl, ea, hB, me, (x0.own C Ca c).ne, (x0.own C Ca c).hm, Fk, hr, kb, ?_⟩))
      refine ⟨B, ρ, S, _, R, hrep B ρ S H [.p (.obj C fs), .p w] [.ref a, y] rfl ⟨_, _, rfl, r1, _, _, rfl, r2, rfl⟩, ?_⟩
      refine (FinG.bind (Rp := RpU G) q').imp ?_
      rintro b H1 ⟨ρ1, S1, w, e1, R1, s1, r1, q1⟩
      match w, r1, q1 with
      | .p (.bl z), r1, q1 =>
        have e : b = .bl z := by simpa [RpU, RepU, Rep] using r1
        subst e
        exact ⟨z, rfl, q1.okU R1 (repB _)⟩
      | .p .non, _, q1 => exact q1.elim
      | .p (.str _), _, q1 => exact q1.elim
      | .p (.int _), _, q1 => exact q1.elim
      | .p (.ty _), _, q1 => exact q1.elim
      | .p (.fn _), _, q1 => exact q1.elim
      | .p (.tup _), _, q1 => exact q1.elim
      | .p (.lst _), _, q1 => exact q1.elim
      | .p (.dct _), _, q1 => exact q1.elim
      | .p (.obj _ _), _, q1 => exact q1.elim
      | .loc _, _, q1 => exact q1.elim
  by_cases hL : ∃ C fs w, u = .p w ∧ v = .p (.obj C fs) ∧ bltW w = true
  · obtain ⟨C, fs, w, rfl, rfl, hbl⟩ := hL
    have h1 := r2
    simp only [RepU, Rep] at h1
    obtain ⟨a, Ca, dx, vs, rfl, c, ea, _⟩ := h1
    have hB : BltR X.K H x := by
      rw [x0.kk]
      exact blt_rep r1 hbl
    have e : eqM F.call w (.obj C fs) = M.bind (F.call (C ++ ".__eq__") [.p (.obj C fs), .p w]) fun v => (match v with
      | .p (.bl r) => fun S => .ok r S
      | _ => fun _ => .bad) := by
      have e2 : eqM F.call w (.obj C fs) = eqB1 F.call C fs w := by
        unfold eqM
        rw [if_neg (by simp [dataW, dataN])]
        cases w <;> first | rfl | (simp only [bltW, Bool.false_eq_true] at hbl)
      rw [e2]
      unfold eqB1
      exact if_pos hbl
    have q' : FinG G B (RpU G) Q ρ S H ((M.bind (eqM F.call w (.obj C fs)) fun r => okP (.bl (!r))) S) := q
    rw [e, bind_assoc'] at q'
    rcases x0.spec C Ca (".__eq__", "__eq__", 2) (by decide) c with hb | ⟨fa, me, fd, ps, k, g, gV, Fk, hr, kb, hrep⟩
    · simp only [hb, M.bind] at q'
      exact q'.elim
    · refine .inr (.inr (.inr ⟨a, Ca, dx, fa, _, k, fd, ps, _, g, gV, rfl, ea, hB, (x0.own C Ca c).nb, me, (x0.own C Ca c).ne, (x0.own C Ca c).hm, Fk, hr, kb, ?_⟩))
      refine ⟨B, ρ, S, _, R, hrep B ρ S H [.p (.obj C fs), .p w] [.ref a, x] rfl ⟨_, _, rfl, r2, _, _, rfl, r1, rfl⟩, ?_⟩
      refine (FinG.bind (Rp := RpU G) q').imp ?_
      rintro b H1 ⟨ρ1, S1, w, e1, R1, s1, r1, q1⟩
      match w, r1, q1 with
      | .p (.bl z), r1, q1 =>
        have e : b = .bl z := by simpa [RpU, RepU, Rep] using r1
        subst e
        exact ⟨z, rfl, q1.okU R1 (repB _)⟩
      | .p .non, _, q1 => exact q1.elim
      | .p (.str _), _, q1 => exact q1.elim
      | .p (.int _), _, q1 => exact q1.elim
      | .p (.ty _), _, q1 => exact q1.elim
      | .p (.fn _), _, q1 => exact q1.elim
      | .p (.tup _), _, q1 => exact q1.elim
      | .p (.lst _), _, q1 => exact q1.elim
      | .p (.dct _), _, q1 => exact q1.elim
      | .p (.obj _ _), _, q1 => exact q1.elim
      | .loc _, _, q1 => exact q1.elim
  have ho1 : ¬own1 u v := fun z => by
    rcases z with z | z | z
    · exact ho z
    · exact hR z
    · exact hL z
  refine .inl ?_
  have q' : FinG G B (RpU G) Q ρ S H (prE F .ne [u, v] S) := q
  rw [neF_data ho1] at q'
  rw [x0.kk]
  exact op2_ne B ρ S H u v x y Q R r1 r2 q'
theorem cop_bin (x0 : XP G F D X N sc) {p : Pr} {o : CmpOp} (h : copOf p = some o) : Bin G X (compareOp o) (fun u v => prE F p [u, v]) := by
  cases p <;> simp only [copOf, Option.some.injEq, reduceCtorEq] at h <;> subst h
  · exact ⟨_, op_eqO x0, op2_eqO x0⟩
  · exact ⟨_, op_neO x0, op2_neO x0⟩
  · exact bin_cmp op_lt
  · exact bin_cmp op_le
  · exact bin_cmp op_gt
  · exact bin_cmp op_ge
  · exact bin_in x0.toXOk
  · exact bin_notin x0.toXOk
theorem marks_of {op : CmpOp} {y : Expr} (h : isSetE y = false) : behindInMarks op y = false := by
  cases y <;> first | rfl | cases h
theorem blt_cal (x0 : XOk G X N sc) {p : Pr} {n : String} (h : bltOf p = some n) : Cal G X (.builtin n) (prE F p) ∧ bootBuiltins (Str.ofString n) = some (.builtin n) ∧ Str.ofString n ≠ "__name__" ∧ (Str.ofString n == ("__debug__" : Str)) = false := by
  cases p <;> simp only [bltOf, Option.some.injEq, reduceCtorEq] at h <;> subst h
  · exact ⟨cal_len x0, by decide +kernel, by decide, by decide⟩
  · exact ⟨cal_all x0, by decide +kernel, by decide, by decide⟩
  · exact ⟨cal_any x0, by decide +kernel, by decide, by decide⟩
  · exact ⟨cal_sum x0, by decide +kernel, by decide, by decide⟩
  · exact ⟨cal_min2 x0, by decide +kernel, by decide, by decide⟩
  · exact ⟨cal_max2 x0, by decide +kernel, by decide, by decide⟩
  · exact ⟨cal_abs x0, by decide +kernel, by decide, by decide⟩
  · exact ⟨cal_divmod x0, by decide +kernel, by decide, by decide⟩
theorem typ_cal (x0 : XOk G X N sc) {p : Pr} {n : String} (h : typOf p = some n) : Cal G X (.type n) (prE F p) ∧ bootBuiltins (Str.ofString n) = some (.type n) ∧ Str.ofString n ≠ "__name__" ∧ (Str.ofString n == ("__debug__" : Str)) = false := by
  cases p <;> simp only [typOf, Option.some.injEq, reduceCtorEq] at h <;> subst h
  · exact ⟨cal_tuple x0, by decide +kernel, by decide, by decide⟩
  · rename_i m; cases m
    · exact ⟨cal_listF x0, by decide +kernel, by decide, by decide⟩
    · exact ⟨cal_listT x0, by decide +kernel, by decide, by decide⟩
theorem pe_bin {f : Value → Value → Sem Value} {g : U → U → M U} {ma mb : Lo → M U} {e : Expr} (b : Bin G X f g) (h : ∀ r, OpR X f r → PE X e (tOp r (rdE G ma) (rdE G mb))) : PE X e (rdE G fun τ => M.bind (ma τ) fun u => M.bind (mb τ) fun v => g u v) := by
  obtain ⟨r, h1, h2⟩ := b
  exact PE.imp (h r h1) (rd_op h2)
theorem evEs_len : ∀ {as : List Ex} {τ : Lo} {S S' : Sto} {us : List U}, evEs F as τ S = .ok us S' → us.length = as.length
  | [], _, _, _, _, h => by simp only [evEs, Res.ok.injEq] at h; rw [← h.1]; rfl
  | a :: as, τ, S, S', us, h => by
    simp only [evEs, M.bind] at h
    cases e1 : evE F a τ S with
    | ok u S1 =>
      simp only [e1] at h
      cases e2 : evEs F as τ S1 with
      | ok us' S2 =>
        simp only [e2, Res.ok.injEq] at h
        rw [← h.1]
        simp [evEs_len e2]
      | err _ _ _ => simp only [e2, reduceCtorEq] at h
      | bad => simp only [e2, reduceCtorEq] at h
    | err _ _ _ => simp only [e1, reduceCtorEq] at h
    | bad => simp only [e1, reduceCtorEq] at h
theorem AllPE.len : ∀ {as : List Ex} {es : List Expr}, AllPE G F X as es → as.length = es.length
  | [], [], _ => rfl
  | a :: as, e :: es, h => by simp [AllPE.len h.2]
  | [], _ :: _, h => h.elim
  | _ :: _, [], h => h.elim
theorem line1000 {n : Nat} (h : n ≤ 1000) : n ≤ sizeLine := Nat.le_trans h (by rw [sizeLine_eq]; decide)
theorem rd_tup {as : List Ex} (hl : as.length ≤ 1000) : ∀ σ H Q, rdE G (evE F (.pr .tup as)) σ H Q → tTup (rdA G (evEs F as)) σ H Q := by
  rintro σ H Q ⟨B, ρ, S, τ, R, L, q⟩
  simp only [evE] at q
  refine ⟨B, ρ, S, τ, R, L, (FinG.bind (Rp := RpUs G) q).imp ?_⟩
  rintro xs H1 ⟨ρ1, S1, us, e1, R1, s1, r1, q1⟩
  refine ⟨by rw [r1.length, evEs_len e1]; exact line1000 hl, fun p n => ?_⟩
  simp only [prE, M.bind] at q1
  cases e2 : frUs us S1 with
  | ok ws S2 =>
    simp only [e2] at q1
    obtain ⟨s2, R2, r2⟩ := frUs_ok R1 r1 e2
    exact fin_tup (q1.later s2) R2 r2 n
  | err _ _ _ => simp only [e2] at q1; exact q1.elim
  | bad => simp only [e2] at q1; exact q1.elim
theorem rd_lst {as : List Ex} {m : Bool} (hl : as.length ≤ 1000) : ∀ σ H Q, rdE G (evE F (.pr (.lst m) as)) σ H Q → tLst (rdA G (evEs F as)) σ H Q := by
  rintro σ H Q ⟨B, ρ, S, τ, R, L, q⟩
  simp only [evE] at q
  refine ⟨B, ρ, S, τ, R, L, (FinG.bind (Rp := RpUs G) q).imp ?_⟩
  rintro xs H1 ⟨ρ1, S1, us, e1, R1, s1, r1, q1⟩
  refine ⟨by rw [r1.length, evEs_len e1]; exact line1000 hl, fun p n => ?_⟩
  cases m with
  | false =>
    simp only [prE, M.bind] at q1
    cases e2 : frUs us S1 with
    | ok ws S2 =>
      simp only [e2] at q1
      obtain ⟨s2, R2, r2⟩ := frUs_ok R1 r1 e2
      exact fin_lst (q1.later s2) R2 r2 n
    | err _ _ _ => simp only [e2] at q1; exact q1.elim
    | bad => simp only [e2] at q1; exact q1.elim
  | true =>
    simp only [prE, M.bind] at q1
    cases e2 : frUs us S1 with
    | ok ws S2 =>
      simp only [e2] at q1
      obtain ⟨s2, R2, r2⟩ := frUs_ok R1 r1 e2
      exact fin_newL (q1.later s2) R2 r2 n
    | err _ _ _ => simp only [e2] at q1; exact q1.elim
    | bad => simp only [e2] at q1; exact q1.elim
/-- is None, is not None, is True -/
theorem op1_isn {b : Bool} : Op1 G (fun x H Q => Q (.bl (if b then decide (x = .non) else !decide (x = .non))) H) (fun u => p1 (fun w => some (.bl (if b then isNon w else !isNon w))) [u]) := by
  refine op1_p1 fun B ρ S H a w x Q R r e q => ?_
  cases e
  have : decide (x = .non) = isNon a := by
    cases a <;> simp only [Rep0, Rep] at r <;> (first | subst r | obtain ⟨a, _, rfl, _⟩ := r | obtain ⟨a, _, _, _, rfl, _⟩ := r | exact r.elim) <;> simp [isNon]
  rw [this]
  exact q.okU R (repB _)
theorem op1_isb {b : Bool} : Op1 G (fun x H Q => rIsB x (.bl b) H Q) (fun u => prE F (.isb b) [u]) := by
  refine op1_p1 fun B ρ S H a w x Q R r e q => ?_
  cases a <;> simp only [Option.some.injEq, reduceCtorEq] at e
  subst e
  rw [rep0_bl r]
  refine ⟨_, _, rfl, rfl, ?_⟩
  rename_i c
  have : decide (c = b) = (c == b) := by cases c <;> cases b <;> rfl
  rw [this]
  exact q.okU R (repB _)
theorem tyx_of (x0 : XP G F D X N sc) {Z : Addr → Prop} {H : Hp} {w : W} {x : V} {t : String} (r : Rep0 G Z H w x) (e : tagW w = some t) : tagOk G t ∧ TyX G.K H x (tvG G t) := by
  have bt : ∀ t ∈ ["NoneType", "bool", "int", "str", "tuple", "list", "dict"], tagOk G t ∧ tvG G t = .type t := fun t ht => by
    have h := x0.tag0 t ht
    exact ⟨.inl ⟨ht, h⟩, by unfold tvG; rw [h]⟩
  cases w <;> simp only [tagW, Option.some.injEq, reduceCtorEq] at e <;> subst e
  · obtain ⟨a, b⟩ := bt "NoneType" (by decide)
    rw [b]; simp only [Rep0, Rep] at r; subst r; exact ⟨a, .base .non⟩
  · obtain ⟨a, b⟩ := bt "bool" (by decide)
    rw [b]; simp only [Rep0, Rep] at r; subst r; exact ⟨a, .base (.bl _)⟩
  · obtain ⟨a, b⟩ := bt "int" (by decide)
    rw [b]; simp only [Rep0, Rep] at r; subst r; exact ⟨a, .base (.int _)⟩
  · obtain ⟨a, b⟩ := bt "str" (by decide)
    rw [b]; simp only [Rep0, Rep] at r; subst r; exact ⟨a, .base (.str _)⟩
  · obtain ⟨a, b⟩ := bt "tuple" (by decide)
    rw [b]
    obtain ⟨p, vs, rfl, h, _⟩ := rep0_tup r
    refine ⟨a, ?_⟩
    rcases h with (h | ⟨o, h⟩) | ⟨o, its, n, h1, h2, _⟩
    · exact .base (.tup h)
    · exact .fTuple h
    · exact .kTuple h1 h2
  · obtain ⟨a, b⟩ := bt "list" (by decide)
    rw [b]
    obtain ⟨p, vs, rfl, h, _⟩ := rep0_lst r
    refine ⟨a, ?_⟩
    rcases h with h | ⟨o, h⟩
    · exact .base (.lst h)
    · exact .base (.frz h)
  · obtain ⟨a, b⟩ := bt "dict" (by decide)
    rw [b]
    simp only [Rep0] at r
    obtain ⟨p, ks, rfl, h, _⟩ := r
    exact ⟨a, .base (.dK h)⟩
  · simp only [Rep0] at r
    obtain ⟨p, Ca, dx, vfs, rfl, c, h, _⟩ := r
    have o := x0.own _ _ c
    refine ⟨.inr (by rw [c]; rfl), ?_⟩
    unfold tvG
    rw [c]
    rw [x0.kk] at o
    exact .base (.ins h o.cl o.ha o.hn o.htk o.hm)
theorem kits (x0 : XP G F D X N sc) {t : String} (h : tagOk G t) : ∀ {ts : List String}, (∀ c ∈ ts, D.tys.contains c = true) → PySem.W.kitAny X.K (tvG G t) (ts.map (tvG G)) = some (ts.any fun c => subT t c)
  | [], _ => kitAny_nil
  | c :: ts, hc => by
    refine kitAny_cons (x0.kit t c h (hc c (by simp))) (fun e => ?_) fun e => ?_
    · rw [kits x0 h fun c' h' => hc c' (by simp [h'])]
      simp [e]
    · simp [e]
/-- a class's name, as a value -/
def cvG (G : Gx) (t : String) : V := match G.cA t with
  | some a => .ref a
  | none => .ty t
theorem pe_cls (x0 : XP G F D X N sc) {t : String} {e : Expr} (h : tyName D sc t e = true) : PE X e (tC (cvG G t)) ∧ ClsV (cvG G t) (tvG G t) ∧ D.tys.contains t = true := by
  cases e <;> simp only [tyName, Bool.false_eq_true] at h
  simp only [Bool.and_eq_true, decide_eq_true_eq] at h
  obtain ⟨⟨rfl, g⟩, ht⟩ := h
  have hg := gl_of x0.toXOk g
  refine ⟨?_, ?_, ht⟩
  · rcases x0.tys t ht with ⟨Ca, c, m⟩ | ⟨c, m, b, n1, n2⟩
    · unfold cvG
      rw [c]
      exact pe_glob hg m rfl (x0.tyd t ht)
    · unfold cvG
      rw [c]
      exact pe_bltn hg m b rfl n1 n2
  · unfold cvG tvG
    cases G.cA t with
    | some a => exact .own a
    | none => exact .ty t
theorem op1_isi (x0 : XP G F D X N sc) {t : String} (p2 : ClsV (cvG G t) (tvG G t)) (p3 : D.tys.contains t = true) : Op1 G (fun x H Q => rIsi X.K [x, cvG G t] H Q) (fun u => prE F (.isi [t]) [u]) := by
  refine op1_p1 fun B ρ S H a w x Q R r e q => ?_
  simp only [Option.map_eq_some_iff] at e
  obtain ⟨t', et, rfl⟩ := e
  obtain ⟨k1, k2⟩ := tyx_of x0 r et
  rw [← x0.kk] at k2
  refine ⟨x, _, _, _, _, rfl, p2, k2, x0.kit t' t k1 p3, ?_⟩
  have := q.okU R (repB _)
  simpa using this
def tCs (G : Gx) : List String → TA
  | [] => tNil
  | t :: ts => tCons (tC (cvG G t)) (tCs G ts)
theorem pa_cls (x0 : XP G F D X N sc) : ∀ {ts : List String} {es : List Expr}, tyNames D sc ts es = true → es.all (fun e => !isStar e) = true → PA X es (tCs G ts) ∧ (∀ c ∈ ts, D.tys.contains c = true) ∧ Paired ClsV (ts.map (cvG G)) (ts.map (tvG G))
  | [], [], _, _ => ⟨pa_nil, by simp, .nil⟩
  | t :: ts, e :: es, h, hs => by
    simp only [tyNames, Bool.and_eq_true] at h
    simp only [List.all_cons, Bool.and_eq_true, Bool.not_eq_true'] at hs
    obtain ⟨a, b, c⟩ := pe_cls x0 h.1
    obtain ⟨a2, b2, c2⟩ := pa_cls x0 h.2 hs.2
    refine ⟨pa_cons a a2 (star_cons hs.1), fun c' h' => ?_, .cons b c2⟩
    rcases List.mem_cons.mp h' with e | e
    · rw [e]; exact c
    · exact b2 c' e
  | [], _ :: _, h, _ => by simp [tyNames] at h
  | _ :: _, [], h, _ => by simp [tyNames] at h
theorem tCs_go : ∀ {ts : List String} {σ : L2.St} {H : Hp} {Q : List V → Hp → Prop}, Q (ts.map (cvG G)) H → tCs G ts σ H Q
  | [], _, _, _, q => q
  | t :: ts, _, _, Q, q => tCs_go (ts := ts) (Q := fun xs H2 => Q (cvG G t :: xs) H2) q
/-- a list at a place is written -/
theorem wr_lst {B : List Addr} {ρ : Nat → Addr} {S : Sto} {H : Hp} {n : Nat} {ws ws' : List W} {vs' : List V} (R : RelS G B ρ S H) (e : S[n]? = some (some (.lst ws))) (r : Reps G (Zf B ρ S) H ws' vs') :
    Stp ρ S H ρ (S.set n (some (.lst ws'))) (upd H (ρ n) (.lst vs')) ∧ RelS G B ρ (S.set n (some (.lst ws'))) (upd H (ρ n) (.lst vs')) := by
  have hn : n < S.length := (List.getElem?_eq_some_iff.mp e).1
  have live : ∀ k o', (S.set n (some (.lst ws')))[k]? = some (some o') → (k = n ∧ o' = .lst ws') ∨ (k ≠ n ∧ S[k]? = some (some o')) := fun k o' h => by
    by_cases hk : k = n
    · subst hk
      rw [List.getElem?_set_self hn] at h
      cases h
      exact .inl ⟨rfl, rfl⟩
    · rw [List.getElem?_set_ne (Ne.symm hk)] at h
      exact .inr ⟨hk, h⟩
  have mu : ∀ a, Mu ρ (S.set n (some (.lst ws'))) a → Mu ρ S a := fun a ⟨k, o', h, q⟩ => by
    rcases live k o' h with ⟨rfl, _⟩ | ⟨_, h2⟩
    · exact ⟨k, _, e, q⟩
    · exact ⟨k, _, h2, q⟩
  have s : Stp ρ S H ρ (S.set n (some (.lst ws'))) (upd H (ρ n) (.lst vs')) := ⟨by simp, fun k hk => ⟨fun o' h => by
      rcases live k o' h with ⟨rfl, _⟩ | ⟨_, h2⟩
      · exact ⟨_, e⟩
      · exact ⟨_, h2⟩, rfl⟩, fun a o h m => ⟨by rw [upd_ne fun z => m ⟨n, _, e, z.symm⟩]; exact h, fun m' => m (mu a m')⟩⟩
  refine ⟨s, ⟨fun k o' h => ?_, fun k m o1 o2 h1 h2 q => ?_, fun b hb => ?_, fun k o' h hb => ?_⟩⟩
  · rcases live k o' h with ⟨rfl, rfl⟩ | ⟨hk, h2⟩
    · exact ⟨vs', upd_same, Reps.stay (s.stay R) r⟩
    · refine (R.at_ k o' h2).stay (s.stay R) (upd_ne fun z => hk (R.inj k n _ _ h2 e z))
  · have l1 : ∃ o, S[k]? = some (some o) := by
      rcases live k o1 h1 with ⟨rfl, _⟩ | ⟨_, h2⟩
      · exact ⟨_, e⟩
      · exact ⟨_, h2⟩
    have l2 : ∃ o, S[m]? = some (some o) := by
      rcases live m o2 h2 with ⟨rfl, _⟩ | ⟨_, h2⟩
      · exact ⟨_, e⟩
      · exact ⟨_, h2⟩
    obtain ⟨_, l1⟩ := l1
    obtain ⟨_, l2⟩ := l2
    exact R.inj k m _ _ l1 l2 q
  · obtain ⟨o, h⟩ := R.bs b hb
    by_cases hb2 : b = ρ n
    · exact ⟨_, by rw [hb2]; exact upd_same⟩
    · exact ⟨o, by rw [upd_ne hb2]; exact h⟩
  · rcases live k o' h with ⟨rfl, _⟩ | ⟨_, h2⟩
    · exact R.nb k _ e hb
    · exact R.nb k _ h2 hb
theorem big_lt {n : Nat} (h : n + 1 ≤ bigLine) : n < sizeLine := Nat.lt_of_lt_of_le (Nat.lt_of_succ_le h) big_line
/-- xs.extend(ys), ys a frozen one too -/
def rExtR : V → List V → Hp → VK → Prop := fun x vs H Q => ∃ l b xs zs, x = .ref l ∧ vs = [.ref b] ∧ H l = some (.lst xs) ∧ Rd H b (.lst zs) ∧ xs.length + zs.length ≤ sizeLine ∧ Q .non (upd H l (.lst (xs ++ zs)))
theorem mt_extR : MtM X "list.extend" rExtR := by
  intro pins s σ H x vs v us Q I rx rv h
  obtain ⟨l, b, xs, zs, rfl, rfl, hH, hB, hz, q⟩ := h
  cases rx
  obtain ⟨u, rfl, ru⟩ := rv.one
  cases ru
  obtain ⟨z, its, n, r, hl, e⟩ := I.lstM hH
  obtain ⟨z2, its2, n2, r2, hl2, e2⟩ := Inv.rdl I hB
  have hsz : its.toArray.size + its2.toArray.size ≤ sizeLine := by rw [List.size_toArray, List.size_toArray]; omega
  have hlong : ¬ (!its.toArray.isEmpty && Builtin.List.listTooLong (its.toArray.size + its2.toArray.size)) = true := by
    rw [notLongL hsz, Bool.and_false]
    exact Bool.false_ne_true
  refine call_meets F.slot_list_extend ⟨_, e, rfl⟩ F.entry_list_extend (F.args_list_extend_2 _ _)
    (AutoSeq1.list_extend_list_list_0 l its.toArray n b its2.toArray n2 hlong (by rw [List.size_toArray]; omega) (by omega)) ⟨e, e2, ?_⟩
  refine ⟨.non, _, I.lset (its' := its ++ its2) hH e (by simp) (r.append r2) ?_, rfl, q⟩
  rw [List.length_append]
  omega
theorem recv_lst {n : Nat} {S S' : Sto} {p : Pr} (hp : p = .append ∨ p = .extend) {u : U} (h : recvOk p u S = .ok () S') : S' = S ∧ ∃ n ws, u = .loc n ∧ S[n]? = some (some (.lst ws)) := by
  cases u with
  | p w => rcases hp with rfl | rfl <;> simp [recvOk, badM] at h
  | loc k =>
    rcases hp with rfl | rfl
    all_goals
      simp only [recvOk] at h
      split at h
      · rename_i ws e
        cases h
        exact ⟨rfl, k, ws, rfl, e⟩
      · cases h
theorem methA_snd (x0 : XP G F D X N sc) {p : Pr} {e eo : Expr} {es : List Expr} {o : Ex} {as : List Ex} (hp : methN p = none) (h : methOf p e = some (eo, es)) (ho : PE X eo (rdE G (evE F o))) (a : AllPE G F X as es) : PE X e (rdE G (evE F (.meth p o as))) := by
  unfold methOf at h
  split at h
  · split at h <;> cases h
    rename_i hq
    simp only [Bool.and_eq_true, decide_eq_true_eq, Bool.not_eq_true'] at hq
    obtain ⟨⟨⟨rfl, b1⟩, b2⟩, b3⟩ := hq
    obtain ⟨a2, rfl, h2⟩ := a.one
    refine PE.imp (pe_bm PySem.F.plainAttrs_list PySem.F.slot_list_append PySem.F.type_list_append mt_append ho (pa_of a (by simp [b2])) (base_ok b1) (by rw [star_cons b2]; rfl) b3 (star_cons b2) rfl) ?_
    rintro σ H Q ⟨B, ρ, S, τ, R, L, q⟩
    simp only [evE] at q
    refine ⟨B, ρ, S, τ, R, L, (FinG.bind (Rp := RpU G) q).imp ?_⟩
    rintro x H1 ⟨ρ1, S1, u, e1, R1, s1, r1, q1⟩
    cases er : recvOk .append u S1 with
    | err _ _ _ => unfold M.bind at q1; rw [er] at q1; exact q1.elim
    | bad => unfold M.bind at q1; rw [er] at q1; exact q1.elim
    | ok _ S1' =>
      obtain ⟨rfl, n, ws, rfl, el⟩ := recv_lst (n := 0) (.inl rfl) er
      unfold M.bind at q1
      rw [er] at q1
      have ex := r1.2
      subst ex
      obtain ⟨vs, hv, rv⟩ := R1.at_ n _ el
      refine ⟨.inl ⟨rfl, _, SqL.of hv⟩, B, ρ1, S1', τ, R1, L.stp s1 R, (FinG.bind (Rp := RpUs G) q1).imp ?_⟩
      rintro ys H2 ⟨ρ2, S2, us, e2, R2, s2, r2, q2⟩
      match us, r2, q2 with
      | [], _, q2 => exact q2.elim
      | _ :: _ :: _, _, q2 => exact q2.elim
      | [y], r2, q2 =>
        obtain ⟨v, rfl, rv2⟩ := r2.eq1
        simp only [prE, M.bind] at q2
        cases e3 : frU y S2 with
        | ok w S3 =>
          obtain ⟨s3, R3, p3⟩ := frU_ok R2 rv2 e3
          simp only [e3, updL] at q2
          cases e4 : S3[n]? with
          | none => simp only [e4] at q2; exact q2.elim
          | some oo =>
            cases oo with
            | none => simp only [e4] at q2; exact q2.elim
            | some o3 =>
              cases o3 with
              | dct _ => simp only [e4] at q2; exact q2.elim
              | ins _ _ => simp only [e4] at q2; exact q2.elim
              | lst ws3 =>
                simp only [e4] at q2
                split at q2
                · rename_i hl
                  have l3 := (s2.trans s3).loc n (List.getElem?_eq_some_iff.mp el).1 _ e4
                  obtain ⟨vs3, hv3, rv3⟩ := R3.at_ n _ e4
                  have l4 := s3.loc n (Nat.lt_of_lt_of_le (List.getElem?_eq_some_iff.mp el).1 s2.len) _ e4
                  have rr : Reps G (Zf B ρ2 S3) H2 (ws3 ++ [w]) (vs3 ++ [v]) := rv3.app (Reps.cons p3 Reps.nil)
                  obtain ⟨s5, R5⟩ := wr_lst R3 e4 rr
                  rw [← l3.2]
                  refine ⟨ρ2 n, vs3, v, rfl, rfl, hv3, ?_, (q2.later s3) .non ρ2 _ s5 R5 (by simp [RepU, Rep])⟩
                  rw [rv3.length]
                  exact big_lt (by simpa using hl)
                · exact q2.elim
        | err _ _ _ => simp only [e3] at q2; exact q2.elim
        | bad => simp only [e3] at q2; exact q2.elim
  · split at h <;> cases h
    rename_i hq
    simp only [Bool.and_eq_true, decide_eq_true_eq, Bool.not_eq_true'] at hq
    obtain ⟨⟨⟨rfl, b1⟩, b2⟩, b3⟩ := hq
    obtain ⟨a2, rfl, h2⟩ := a.one
    refine PE.imp (pe_bm PySem.F.plainAttrs_list PySem.F.slot_list_extend PySem.F.type_list_extend mt_extR ho (pa_of a (by simp [b2])) (base_ok b1) (by rw [star_cons b2]; rfl) b3 (star_cons b2) rfl) ?_
    rintro σ H Q ⟨B, ρ, S, τ, R, L, q⟩
    simp only [evE] at q
    refine ⟨B, ρ, S, τ, R, L, (FinG.bind (Rp := RpU G) q).imp ?_⟩
    rintro x H1 ⟨ρ1, S1, u, e1, R1, s1, r1, q1⟩
    cases er : recvOk .extend u S1 with
    | err _ _ _ => unfold M.bind at q1; rw [er] at q1; exact q1.elim
    | bad => unfold M.bind at q1; rw [er] at q1; exact q1.elim
    | ok _ S1' =>
      obtain ⟨rfl, n, ws, rfl, el⟩ := recv_lst (n := 0) (.inr rfl) er
      unfold M.bind at q1
      rw [er] at q1
      have ex := r1.2
      subst ex
      obtain ⟨vs, hv, rv⟩ := R1.at_ n _ el
      refine ⟨.inl ⟨rfl, _, SqL.of hv⟩, B, ρ1, S1', τ, R1, L.stp s1 R, (FinG.bind (Rp := RpUs G) q1).imp ?_⟩
      rintro ys H2 ⟨ρ2, S2, us, e2, R2, s2, r2, q2⟩
      match us, r2, q2 with
      | [], _, q2 => exact q2.elim
      | _ :: _ :: _, _, q2 => exact q2.elim
      | [y], r2, q2 =>
        obtain ⟨v, rfl, rv2⟩ := r2.eq1
        simp only [prE, M.bind] at q2
        cases e3 : rdU y S2 with
        | ok w S3 =>
          obtain ⟨rfl, p3⟩ := rdU_ok R2 rv2 e3
          simp only [e3] at q2
          cases w with
          | lst zs =>
            obtain ⟨pb, vz, rfl, hz, rz⟩ := rep0_lst p3
            simp only [updL] at q2
            cases e4 : S3[n]? with
            | none => simp only [e4] at q2; exact q2.elim
            | some oo =>
              cases oo with
              | none => simp only [e4] at q2; exact q2.elim
              | some o3 =>
                cases o3 with
                | dct _ => simp only [e4] at q2; exact q2.elim
                | ins _ _ => simp only [e4] at q2; exact q2.elim
                | lst ws3 =>
                  simp only [e4] at q2
                  split at q2
                  · rename_i hl
                    have l3 := s2.loc n (List.getElem?_eq_some_iff.mp el).1 _ e4
                    obtain ⟨vs3, hv3, rv3⟩ := R2.at_ n _ e4
                    obtain ⟨s5, R5⟩ := wr_lst R2 e4 (rv3.app rz)
                    rw [← l3.2]
                    refine ⟨ρ2 n, pb, vs3, vz, rfl, rfl, hv3, hz, ?_, q2 .non ρ2 _ s5 R5 (by simp [RepU, Rep])⟩
                    rw [rv3.length, rz.length]
                    exact Nat.le_trans (by simpa using hl) big_line
                  · exact q2.elim
          | _ => exact q2.elim
        | err _ _ _ => simp only [e3] at q2; exact q2.elim
        | bad => simp only [e3] at q2; exact q2.elim
  · rename_i m apos e0 pos
    split at h
    · rename_i n hn
      rw [hp] at hn
      cases hn
    · cases h
  · cases h
theorem prB_snd (x0 : XP G F D X N sc) {p : Pr} {e : Expr} {es : List Expr} {as : List Ex} (h : argsB D sc p e = some es) (a : AllPE G F X as es) : PE X e (rdE G (evE F (.pr p as))) := by
  unfold argsB at h
  split at h
  · -- a binary operator
    split at h
    · rename_i o ho
      split at h <;> cases h
      rename_i hq
      obtain rfl := eqOp_eq hq
      obtain ⟨a1, a2, rfl, h1, h2⟩ := a.two
      rw [ev_pr2]
      exact pe_bin (bop_bin x0.toXOk ho) fun r hr => pe_op hr h1 h2
    · cases h
  · -- a comparison
    split at h
    · rename_i o ho
      split at h <;> cases h
      rename_i hq
      simp only [Bool.and_eq_true, Bool.not_eq_true'] at hq
      obtain rfl := eqCop_eq hq.1
      obtain ⟨a1, a2, rfl, h1, h2⟩ := a.two
      rw [ev_pr2]
      exact pe_bin (cop_bin x0 ho) fun r hr => pe_cmpR hr h1 h2 (marks_of hq.2)
    · split at h
      · cases h
        obtain ⟨a1, rfl, h1⟩ := a.one
        rw [ev_pr1]
        exact PE.imp (pe_cmp (pc_isN h1)) (rd_un (op1_isn (b := true)))
      · cases h
        obtain ⟨a1, rfl, h1⟩ := a.one
        rw [ev_pr1]
        exact PE.imp (pe_cmp (pc_notN h1)) (rd_un (op1_isn (b := false)))
      · split at h <;> cases h
        rename_i hb
        have hb' := eq_of_beq hb
        subst hb'
        obtain ⟨a1, rfl, h1⟩ := a.one
        rw [ev_pr1]
        exact PE.imp (pe_cmpR op_isBl h1 pe_bl (nomark _)) (rd_un op1_isb)
      · cases h
  · -- -x
    cases h
    obtain ⟨a1, rfl, h1⟩ := a.one
    rw [ev_pr1]
    refine PE.imp (pe_un un_neg h1) (rd_un (op1_p1 fun B ρ S H a w x Q R r e q => ?_))
    cases a <;> simp only [Option.some.injEq, reduceCtorEq] at e
    subst e
    rw [rep0_int r]
    exact ⟨_, rfl, q.okU R (repI _)⟩
  · split at h <;> cases h
    rename_i hq
    simp only [Bool.and_eq_true, decide_eq_true_eq] at hq
    exact PE.imp (pe_tup (pa_of a hq.1)) (rd_tup (by rw [a.len]; exact hq.2))
  · split at h <;> cases h
    rename_i hq
    simp only [Bool.and_eq_true, decide_eq_true_eq] at hq
    exact PE.imp (pe_lst (pa_of a hq.1)) (rd_lst (by rw [a.len]; exact hq.2))
  · split at h <;> cases h
    rename_i hq
    obtain ⟨a1, a2, rfl, h1, h2⟩ := a.two
    rw [ev_pr2]
    obtain ⟨i1, i2⟩ := ix_all (F := F) x0.toXOk
    exact PE.imp (pe_ix i1 h1 h2 (plain_ix (by simpa using hq))) (rd_op i2)
  · split at h
    · rename_i hq
      simp only [Bool.and_eq_true, decide_eq_true_eq] at hq
      obtain ⟨⟨g1, g2⟩, g3⟩ := hq
      have hg := gl_of x0.toXOk g1
      have hm := x0.free _ g2
      simp only [List.all_cons, Bool.and_eq_true, Bool.not_eq_true'] at g3
      split at h
      · rename_i ts
        split at h
        · rename_i hx
          obtain rfl := of_decide_eq_true hx
          split at h
          · split at h <;> cases h
            rename_i hq
            simp only [Bool.and_eq_true, decide_eq_true_eq] at hq
            obtain ⟨a1, rfl, h1⟩ := a.one
            rw [ev_pr1]
            obtain ⟨p1, p2, p3⟩ := pa_cls x0 hq.1.1 hq.1.2
            refine PE.imp (pe_callB call_isiT hg hm (by decide +kernel) (pa_cons h1 (pa_cons (pe_tup p1) pa_nil (star_cons (by simpa using g3.2))) (star_cons g3.1)) (by decide) (by decide) (star_cons g3.1) (star_any (by simpa using g3.2))) ?_
            rintro σ H Q ⟨B, ρ, S, τ, R, L, q⟩
            refine ⟨B, ρ, S, τ, R, L, (FinG.bind (Rp := RpU G) q).imp ?_⟩
            rintro x H1 ⟨ρ1, S1, u, e1, R1, s1, r1, q1⟩
            refine tCs_go ⟨?_, fun p n => ?_⟩
            · rw [List.length_map]
              exact line1000 hq.2
            refine op1_p1 (r := fun x H Q => ∀ p, H p = none → rIsiT X.K [x, .ref p] (upd H p (.tup (ts.map (cvG G)))) Q) (fun B ρ S H a w x Q R r e q p n => ?_) B ρ1 S1 H1 u x Q R1 r1 q1 p n
            simp only [Option.map_eq_some_iff] at e
            obtain ⟨t, et, rfl⟩ := e
            have r2 : Rep0 G (Zf B ρ S) (upd H p (.tup (ts.map (cvG G)))) a x := by
              cases a <;> simp only [Rep0] at r ⊢ <;> first
                | exact Rep.stay (Stay.grow (grow_upd n)) r
                | (obtain ⟨c1, c2, c3, c4, c5⟩ := r; exact ⟨c1, c2, c3, (Stay.grow (G := G) (Z := Zf B ρ S) (grow_upd n)).tup _ _ c4, Reps.stay (Stay.grow (grow_upd n)) c5⟩)
                | (obtain ⟨c1, c2, c3, c4, c5⟩ := r; refine ⟨c1, c2, c3, ?_, Reps.stay (Stay.grow (grow_upd n)) c5⟩; rcases c4 with c4 | ⟨o, c4⟩; exact .inl (grow_upd n _ _ c4); exact .inr ⟨o, grow_upd n _ _ c4⟩)
                | (obtain ⟨c1, c2, c3, c4, c5⟩ := r; exact ⟨c1, c2, c3, grow_upd n _ _ c4, RepD.stay (Stay.grow (grow_upd n)) c5⟩)
                | (obtain ⟨c1, c2, c3, c4, c5, c6, c7, c8⟩ := r; exact ⟨c1, c2, c3, c4, c5, c6, grow_upd n _ _ c7, RepF.stay (Stay.grow (grow_upd n)) c8⟩)
            obtain ⟨k1, k2⟩ := tyx_of x0 r2 et
            rw [← x0.kk] at k2
            exact ⟨x, p, _, _, _, _, rfl, upd_same, p3, k2, kits x0 k1 p2, q.ok_new R n (by simp [RepU, Rep])⟩
          · split at h
            · split at h <;> cases h
              rename_i hq
              obtain ⟨a1, rfl, h1⟩ := a.one
              rw [ev_pr1]
              obtain ⟨p1, p2, p3⟩ := pe_cls x0 hq
              refine PE.imp (pe_callB call_isi hg hm (by decide +kernel) (pa_cons h1 (pa_cons p1 pa_nil (star_cons (by simpa using g3.2))) (star_cons g3.1)) (by decide) (by decide) (star_cons g3.1) (star_any (by simpa using g3.2))) ?_
              rintro σ H Q ⟨B, ρ, S, τ, R, L, q⟩
              refine ⟨B, ρ, S, τ, R, L, (FinG.bind (Rp := RpU G) q).imp ?_⟩
              rintro x H1 ⟨ρ1, S1, u, e1, R1, s1, r1, q1⟩
              exact op1_isi x0 p2 p3 B ρ1 S1 H1 u x Q R1 r1 q1
            · cases h
          · cases h
        · cases h
      · split at h
        · rename_i n hn
          split at h <;> cases h
          rename_i hx
          obtain ⟨⟨r, c1, c2⟩, c3, c4, c5⟩ := blt_cal (F := F) x0.toXOk hn
          obtain rfl := of_decide_eq_true hx
          rw [ev_prN]
          exact PE.imp (pe_callB c1 hg hm c3 (pa_of a (by simp [g3.1, g3.2])) c4 c5 (star_cons g3.1) (star_any (by simpa using g3.2))) (rd_cb c2)
        · split at h
          · rename_i n hn
            split at h <;> cases h
            rename_i hx
            obtain ⟨⟨r, c1, c2⟩, c3, c4, c5⟩ := typ_cal (F := F) x0.toXOk hn
            obtain rfl := of_decide_eq_true hx
            rw [ev_prN]
            exact PE.imp (pe_callTy c1 hg hm c3 (pa_of a (by simp [g3.1, g3.2])) c4 c5 (star_cons g3.1) (star_any (by simpa using g3.2))) (rd_cb c2)
          · cases h
    · cases h
  · cases h
/-! ### more primitives -/
theorem Reps.cut {G : Gx} {Z : Addr → Prop} {H : Hp} {ws : List W} {vs : List V} (r : Reps G Z H ws vs) (lo hi : Option Int) : Reps G Z H (cutL ws lo hi) (cutV vs lo hi) := by
  unfold cutL cutV
  rw [r.length]
  exact (r.drop _).take _
theorem cutL_all {α : Type} {xs : List α} {lo hi : Option Int} (h : HT.sIx xs.length 0 lo = 0 ∧ HT.sIx xs.length xs.length hi = xs.length) : cutL xs lo hi = xs := by
  unfold cutL
  rw [h.1, h.2]
  simp
def OpSl (G : Gx) (r : V → Option Int → Option Int → Hp → VK → Prop) : Prop := ∀ (B : List Addr) (ρ : Nat → Addr) (S : Sto) (H : Hp) (u : U) (x : V) (lo hi : Option Int) (Q : VK), RelS G B ρ S H → RepU G B ρ S H u x →
  FinG G B (RpU G) Q ρ S H (M.bind (rdU u) (fun x => match slW lo hi x with | some w => okP w | none => badM) S) → r x lo hi H Q
theorem sl_all (x0 : XOk G X N sc) : ∃ r, SlR X r ∧ OpSl G r := by
  refine ⟨_, SlR.or sl_tupA (SlR.or sl_list sl_str), fun B ρ S H u x lo hi Q R ru q => ?_⟩
  rw [x0.kk]
  unfold M.bind at q
  cases e1 : rdU u S with
  | err _ _ _ => rw [e1] at q; exact q.elim
  | bad => rw [e1] at q; exact q.elim
  | ok w S1 =>
    obtain ⟨rfl, p⟩ := rdU_ok R ru e1
    rw [e1] at q
    cases w with
    | tup xs =>
      obtain ⟨a, vs, rfl, h, t⟩ := rep0_tup p
      refine .inl ⟨a, vs, rfl, h, fun hw => ?_, fun _ l n => fin_tup q R (t.cut lo hi) n⟩
      rw [t.length] at hw
      have q : FinG G B (RpU G) Q ρ S1 H (.ok (.p (.tup (cutL xs lo hi))) S1) := q
      rw [cutL_all hw] at q
      exact q.okU R (repT h t)
    | lst xs =>
      obtain ⟨a, vs, rfl, h, t⟩ := rep0_lst p
      exact .inr (.inl ⟨a, vs, rfl, .inl h, fun l n => fin_lst q R (t.cut lo hi) n⟩)
    | str s =>
      have e := rep0_str p
      subst e
      simp only [slW] at q
      by_cases hl : s.length ≤ bigLine
      · rw [if_pos hl] at q
        exact .inr (.inr ⟨s, rfl, Nat.le_trans hl big_line, q.okU R (repS _)⟩)
      · rw [if_neg hl] at q
        exact q.elim
    | _ => exact q.elim
theorem AllPE.nil {as : List Ex} (h : AllPE G F X as []) : as = [] := by
  match as, h with
  | [], _ => rfl
  | _ :: _, h => exact h.elim
theorem AllPE.three {as : List Ex} {x y z : Expr} (h : AllPE G F X as [x, y, z]) : ∃ a b c, as = [a, b, c] ∧ PE X x (rdE G (evE F a)) ∧ PE X y (rdE G (evE F b)) ∧ PE X z (rdE G (evE F c)) := by
  match as, h with
  | [a, b, c], h => exact ⟨a, b, c, rfl, h.1, h.2.1, h.2.2.1⟩
  | [], h => exact h.elim
  | [_], h => exact h.2.elim
  | [_, _], h => exact h.2.2.elim
  | _ :: _ :: _ :: _ :: _, h => exact h.2.2.2.elim
theorem optI_ok {B : List Addr} {ρ : Nat → Addr} {S S' : Sto} {H : Hp} {u : U} {x : V} {o : Option Int} (r : RepU G B ρ S H u x) (e : optI u S = .ok o S') : S' = S ∧ ∃ i, o = some i ∧ x = .int i := by
  cases u with
  | loc n => cases e
  | p w =>
    cases w <;> first | (cases e; done) | skip
    cases e
    simp only [RepU, Rep] at r
    exact ⟨rfl, _, rfl, r⟩
theorem Reps.rev {G : Gx} {Z : Addr → Prop} {H : Hp} : ∀ {ws : List W} {vs : List V}, Reps G Z H ws vs → Reps G Z H ws.reverse vs.reverse
  | [], vs, h => by
    have : vs = [] := List.length_eq_zero_iff.mp h.length
    subst this
    exact Reps.nil
  | w :: ws, [], h => by cases h.length
  | w :: ws, v :: vs, h => by
    simp only [Reps] at h
    obtain ⟨v1, r, e, h1, h2⟩ := h
    cases e
    rw [List.reverse_cons, List.reverse_cons]
    exact Reps.app (Reps.rev h2) (Reps.cons h1 Reps.nil)
theorem prX_snd (x0 : XP G F D X N sc) {p : Pr} {e : Expr} {es : List Expr} {as : List Ex} (h : argsX D sc p e = some es) (a : AllPE G F X as es) : PE X e (rdE G (evE F (.pr p as))) := by
  obtain ⟨r, sr, op⟩ := sl_all x0.toXOk
  unfold argsX at h
  split at h
  · cases h
    obtain ⟨a1, rfl, h1⟩ := a.one
    rw [ev_pr1]
    refine PE.imp (pe_slice sr h1 po_none po_none) ?_
    rintro σ H Q ⟨B, ρ, S, τ, R, L, q⟩
    refine ⟨B, ρ, S, τ, R, L, (FinG.bind (Rp := RpU G) q).imp ?_⟩
    rintro x H1 ⟨ρ1, S1, u, e1, R1, s1, r1, q1⟩
    exact op B ρ1 S1 H1 u x none none Q R1 r1 q1
  · cases h
    obtain ⟨a1, a2, rfl, h1, h2⟩ := a.two
    rw [ev_pr2]
    refine PE.imp (pe_slice sr h1 (po_some h2) po_none) ?_
    rintro σ H Q ⟨B, ρ, S, τ, R, L, q⟩
    refine ⟨B, ρ, S, τ, R, L, (FinG.bind (Rp := RpU G) q).imp ?_⟩
    rintro x H1 ⟨ρ1, S1, u, e1, R1, s1, r1, q1⟩
    refine ⟨B, ρ1, S1, τ, R1, L.stp s1 R, (FinG.bind (Rp := RpU G) q1).imp ?_⟩
    rintro y H2 ⟨ρ2, S2, v, e2, R2, s2, r2, q2⟩
    simp only [prE, M.bind] at q2
    cases e3 : rdU u S2 with
    | err _ _ _ => simp only [e3] at q2; exact q2.elim
    | bad => simp only [e3] at q2; exact q2.elim
    | ok w S3 =>
      obtain ⟨rfl, _⟩ := rdU_ok R2 (RepU.stp s2 R1 r1) e3
      simp only [e3] at q2
      cases e4 : optI v S3 with
      | err _ _ _ => simp only [e4] at q2; exact q2.elim
      | bad => simp only [e4] at q2; exact q2.elim
      | ok o S4 =>
        obtain ⟨rfl, i, rfl, rfl⟩ := optI_ok r2 e4
        simp only [e4] at q2
        refine ⟨i, rfl, op B ρ2 S4 H2 u x (some i) none Q R2 (RepU.stp s2 R1 r1) ?_⟩
        unfold M.bind
        rw [e3]
        exact q2
  · cases h
    obtain ⟨a1, a2, rfl, h1, h2⟩ := a.two
    rw [ev_pr2]
    refine PE.imp (pe_slice sr h1 po_none (po_some h2)) ?_
    rintro σ H Q ⟨B, ρ, S, τ, R, L, q⟩
    refine ⟨B, ρ, S, τ, R, L, (FinG.bind (Rp := RpU G) q).imp ?_⟩
    rintro x H1 ⟨ρ1, S1, u, e1, R1, s1, r1, q1⟩
    refine ⟨B, ρ1, S1, τ, R1, L.stp s1 R, (FinG.bind (Rp := RpU G) q1).imp ?_⟩
    rintro y H2 ⟨ρ2, S2, v, e2, R2, s2, r2, q2⟩
    simp only [prE, M.bind] at q2
    cases e3 : rdU u S2 with
    | err _ _ _ => simp only [e3] at q2; exact q2.elim
    | bad => simp only [e3] at q2; exact q2.elim
    | ok w S3 =>
      obtain ⟨rfl, _⟩ := rdU_ok R2 (RepU.stp s2 R1 r1) e3
      simp only [e3] at q2
      cases e4 : optI v S3 with
      | err _ _ _ => simp only [e4] at q2; exact q2.elim
      | bad => simp only [e4] at q2; exact q2.elim
      | ok o S4 =>
        obtain ⟨rfl, i, rfl, rfl⟩ := optI_ok r2 e4
        simp only [e4] at q2
        refine ⟨i, rfl, op B ρ2 S4 H2 u x none (some i) Q R2 (RepU.stp s2 R1 r1) ?_⟩
        unfold M.bind
        rw [e3]
        exact q2
  · cases h
    obtain ⟨a1, a2, a3, rfl, h1, h2, h3⟩ := a.three
    have ev : evE F (.pr (.sl true true) [a1, a2, a3]) = fun τ => M.bind (evE F a1 τ) fun u => M.bind (evE F a2 τ) fun v => M.bind (evE F a3 τ) fun t => prE F (.sl true true) [u, v, t] := by
      funext τ
      simp only [evE, evEs, bind_assoc', pure_bind']
    rw [ev]
    refine PE.imp (pe_slice sr h1 (po_some h2) (po_some h3)) ?_
    rintro σ H Q ⟨B, ρ, S, τ, R, L, q⟩
    refine ⟨B, ρ, S, τ, R, L, (FinG.bind (Rp := RpU G) q).imp ?_⟩
    rintro x H1 ⟨ρ1, S1, u, e1, R1, s1, r1, q1⟩
    refine ⟨B, ρ1, S1, τ, R1, L.stp s1 R, (FinG.bind (Rp := RpU G) q1).imp ?_⟩
    rintro y H2 ⟨ρ2, S2, v, e2, R2, s2, r2, q2⟩
    -- the second bound is evaluated ahead of the reading
    have key := (FinG.bind (Rp := RpU G) q2)
    cases ev2 : optI v S2 with
    | err _ _ _ => cases v with
      | loc _ => cases ev2
      | p w => cases w <;> cases ev2
    | bad =>
      exfalso
      revert key
      cases e3 : evE F a3 τ S2 with
      | err _ _ _ => exact id
      | bad => exact id
      | ok t S3 =>
        intro _
        unfold M.bind at q2
        rw [e3] at q2
        simp only [prE, M.bind] at q2
        cases e4 : rdU u S3 with
        | err _ _ _ => simp only [e4] at q2; exact q2.elim
        | bad => simp only [e4] at q2; exact q2.elim
        | ok w S4 =>
          have eb : ∀ T, optI v T = .bad := fun T => by
            cases v with
            | loc _ => rfl
            | p w => cases w <;> first | rfl | cases ev2
          simp only [e4, eb] at q2
          exact q2.elim
    | ok o S2' =>
      obtain ⟨rfl, i, rfl, rfl⟩ := optI_ok r2 ev2
      refine ⟨i, rfl, B, ρ2, S2', τ, R2, (L.stp s1 R).stp s2 R1, key.imp ?_⟩
      rintro z H3 ⟨ρ3, S3, t, e3, R3, s3, r3, q3⟩
      have eb : ∀ T, optI v T = .ok (some i) T := fun T => by
        cases v with
        | loc _ => cases ev2
        | p w =>
          cases w <;> first | (cases ev2; done) | skip
          cases ev2
          rfl
      simp only [prE, M.bind, eb] at q3
      cases e4 : rdU u S3 with
      | err _ _ _ => simp only [e4] at q3; exact q3.elim
      | bad => simp only [e4] at q3; exact q3.elim
      | ok w S4 =>
        have ru := RepU.stp (s2.trans s3) R1 r1
        obtain ⟨rfl, _⟩ := rdU_ok R3 ru e4
        simp only [e4] at q3
        cases e5 : optI t S4 with
        | err _ _ _ => simp only [e5] at q3; exact q3.elim
        | bad => simp only [e5] at q3; exact q3.elim
        | ok o S5 =>
          obtain ⟨rfl, j, rfl, rfl⟩ := optI_ok r3 e5
          simp only [e5] at q3
          refine ⟨j, rfl, op B ρ3 S5 H3 u x (some i) (some j) Q R3 ru ?_⟩
          unfold M.bind
          rw [e4]
          exact q3
  · cases h
    obtain rfl := a.nil
    refine PE.imp pe_dnewK ?_
    rintro σ H Q ⟨B, ρ, S, τ, R, L, q⟩ l n
    simp only [evE, evEs, M.bind, prE] at q
    exact q.ok_new (o := .dK []) R n (by
      simp only [RpU, RepU, Rep]
      exact ⟨l, [], rfl, upd_same, R.fresh n, by simp [RepD]⟩)
  · cases h
    obtain ⟨a1, rfl, h1⟩ := a.one
    rw [ev_pr1]
    refine PE.imp (pe_revL h1) ?_
    rintro σ H Q ⟨B, ρ, S, τ, R, L, q⟩
    refine ⟨B, ρ, S, τ, R, L, (FinG.bind (Rp := RpU G) q).imp ?_⟩
    rintro x H1 ⟨ρ1, S1, u, e1, R1, s1, r1, q1⟩
    simp only [prE, p1, M.bind] at q1
    cases e3 : rdU u S1 with
    | err _ _ _ => simp only [e3] at q1; exact q1.elim
    | bad => simp only [e3] at q1; exact q1.elim
    | ok w S3 =>
      obtain ⟨rfl, rw0⟩ := rdU_ok R1 r1 e3
      simp only [e3] at q1
      cases w with
      | lst xs =>
        obtain ⟨b, vs, rfl, hb, rs⟩ := rep0_lst rw0
        exact ⟨b, vs, rfl, .inl hb, fun p n => fin_lst q1 R1 (Reps.rev rs) n⟩
      | _ => exact q1.elim
  · cases h
    obtain ⟨a1, rfl, h1⟩ := a.one
    rw [ev_pr1]
    refine PE.imp h1 ?_
    rintro σ H Q ⟨B, ρ, S, τ, R, L, q⟩
    refine ⟨B, ρ, S, τ, R, L, (FinG.bind (Rp := RpU G) q).imp ?_⟩
    rintro x H1 ⟨ρ1, S1, u, e1, R1, s1, r1, q1⟩
    simp only [prE, M.bind] at q1
    cases e3 : frU u S1 with
    | err _ _ _ => simp only [e3] at q1; exact q1.elim
    | bad => simp only [e3] at q1; exact q1.elim
    | ok w S3 =>
      obtain ⟨s3, R3, r3⟩ := frU_ok R1 r1 e3
      simp only [e3] at q1
      exact q1 x ρ1 H1 s3 R3 r3
  · cases h
end
end Pm
end
section
set_option Elab.async false
set_option linter.all false
set_option maxHeartbeats 2000000
set_option maxRecDepth 20000
/-! Pm9b: repr, str, f-strings, list(range(..)) in the text. -/
namespace Pm
open PySem PySem.Spec PyProof.Rows L2
section
variable {G : Gx} {F : Cf} {D : Ds} {X : Cx} {N : List Str} {sc : Scope}
/-- an own special method that gives a text, or what r says -/
def rOwnS (X : Cx) (nm : Str) (r : List V → Hp → VK → Prop) : List V → Hp → VK → Prop := fun xs H Q => r xs H Q ∨
  ∃ (a C dx f : Addr) (fs : List (Str × V)) (k : Nat) (fd : FuncData) (ps : List Str) (sp : Sp) (g : List Value → List Value → List Value) (gV : List V → List V → List V), xs = [.ref a] ∧ H a = some (.ins C dx fs) ∧ Meth X.K C nm f ∧
    FnG X.prog X.w X.K X.mg X.base k f fd ps sp ∧ Room (k + 1) X.A ∧ KBn X.K fd ps 1 [] g gV ∧ sp (gV [.ref a] []) H (StrK Q) E0
theorem call_reprA (x0 : XP G F D X N sc) : CallR X (.builtin "repr") (rOwnS X "__repr__" (rReprD X.K)) := by
  intro pins s σ H xs us Q I r h
  rcases h with ⟨y, d, rfl, hd, sh, nd, dp, hz, q⟩ | ⟨a, C, dx, f, fs, k, fd, ps, sp, g, gV, rfl, ha, me, Fk, hr, hb, h⟩
  · obtain ⟨u, rfl, ru⟩ := vals1 r
    exact reprD_go x0.gd x0.un I ru hd sh nd dp hz q
  · obtain ⟨u, rfl, ru⟩ := vals1 r
    obtain rfl : u = Value.ref a := ru
    exact reprO_go x0.gd x0.un I ha me Fk hr hb h
def rStrD : List V → Hp → VK → Prop := fun xs H Q => (∃ i, xs = [.int i] ∧ i.natAbs.log2 < 1920 ∧ Q (.str (toString i)) H) ∨ ∃ z, xs = [.str z] ∧ Q (.str z) H
theorem call_strA (x0 : XP G F D X N sc) : CallR X (.type "str") (rOwnS X "__str__" rStrD) := by
  intro pins s σ H xs us Q I r h
  rcases h with (⟨i, rfl, hz, q⟩ | ⟨z, rfl, q⟩) | ⟨a, C, dx, f, fs, k, fd, ps, sp, g, gV, rfl, ha, me, Fk, hr, hb, h⟩
  · obtain ⟨u, rfl, t, rfl⟩ := vals1 r
    exact PySem.P.str_of_int hz ⟨.str _, H, I.tok _, ⟨_, rfl⟩, q⟩
  · obtain ⟨u, rfl, t, rfl⟩ := vals1 r
    exact PySem.P.str_of_str ⟨.str z, H, I, ⟨t, rfl⟩, q⟩
  · obtain ⟨u, rfl, ru⟩ := vals1 r
    obtain rfl : u = Value.ref a := ru
    exact strO_go x0.gd x0.un I ha me Fk hr hb h
theorem ownS_ok (x0 : XP G F D X N sc) {B : List Addr} {ρ : Nat → Addr} {S : Sto} {H : Hp} {Q : VK} {C nm : String} {nn : String} {u : U} {a Ca dx : Addr} {fs : List (Str × V)} {r : List V → Hp → VK → Prop} (hq : (nm, nn, 1) ∈ specN) (R : RelS G B ρ S H)
    (ru : RepU G B ρ S H u (.ref a)) (hc : G.cA C = some Ca) (ha : H a = some (.ins Ca dx fs)) (q : FinG G B (RpU G) Q ρ S H (ownS F.call C nm u S)) : rOwnS X (Str.ofString nn) r [.ref a] H Q := by
  rcases x0.spec C Ca _ hq hc with hb | ⟨fa, me, fd, ps, k, g, gV, Fk, hr, kb, hrep⟩
  · simp only [ownS, hb, M.bind] at q
    exact q.elim
  · refine .inr ⟨a, Ca, dx, fa, fs, k, fd, ps, _, g, gV, rfl, ha, me, Fk, hr, kb, ?_⟩
    refine ⟨B, ρ, S, [u], R, hrep B ρ S H [u] [.ref a] rfl ⟨_, _, rfl, ru, rfl⟩, ?_⟩
    unfold ownS at q
    refine (FinG.bind (Rp := RpU G) q).imp ?_
    rintro b H1 ⟨ρ1, S1, w, e1, R1, s1, r1, q1⟩
    match w, r1, q1 with
    | .p (.str z), r1, q1 =>
      have e : b = .str z := by simpa [RpU, RepU, Rep] using r1
      subst e
      exact ⟨z, rfl, q1.okU R1 (repS _)⟩
    | .p .non, _, q1 => exact q1.elim
    | .p (.bl _), _, q1 => exact q1.elim
    | .p (.int _), _, q1 => exact q1.elim
    | .p (.ty _), _, q1 => exact q1.elim
    | .p (.fn _), _, q1 => exact q1.elim
    | .p (.tup _), _, q1 => exact q1.elim
    | .p (.lst _), _, q1 => exact q1.elim
    | .p (.dct _), _, q1 => exact q1.elim
    | .p (.obj _ _), _, q1 => exact q1.elim
    | .loc _, _, q1 => exact q1.elim
theorem reprW_ok {B : List Addr} {ρ : Nat → Addr} {S : Sto} {H : Hp} {Q : VK} {w : W} {v : V} {s : Str} (R : RelS G B ρ S H) (r : Rep0 G (Zf B ρ S) H w v) (e : reprW w = some s) (q : FinG G B (RpU G) Q ρ S H (.ok (.p (.str s)) S)) : rReprD G.K [v] H Q := by
  unfold reprW at e
  split at e
  · rename_i h
    simp only [Bool.and_eq_true, decide_eq_true_eq] at h
    obtain ⟨⟨h1, h2⟩, h3⟩ := h
    cases e
    obtain ⟨l1, l2⟩ := lay_of 60 h1
    exact ⟨v, toD w, rfl, dp_of 60 h1 r, h2, noDict_of 60 h1, by omega, Nat.le_trans h3 big_line, q.okU R (repS _)⟩
  · cases e
theorem opN_repr (x0 : XP G F D X N sc) : OpN G (rOwnS X "__repr__" (rReprD X.K)) (prE F .repr) := by
  rw [x0.kk]
  intro B ρ S H us xs Q R rs q
  match us, rs, q with
  | [], _, q => exact q.elim
  | _ :: _ :: _, _, q => exact q.elim
  | [.loc n], rs, q =>
    obtain ⟨x, rfl, r1⟩ := rs.eq1
    obtain ⟨h1, rfl⟩ := r1
    simp only [prE, reprM] at q
    rcases e : S[n]? with _ | _ | o
    · simp only [e] at q; exact q.elim
    · simp only [e] at q; exact q.elim
    · have rm := R.at_ n o e
      simp only [e] at q
      cases o with
      | ins C fs =>
        obtain ⟨Ca, dx, vs, c, ea, _⟩ := rm
        exact ownS_ok x0 (u := .loc n) (by decide) R ⟨h1, rfl⟩ c ea q
      | lst ws =>
        simp only at q
        cases e2 : reprW (MO.lst ws).frz with
        | none => simp only [e2] at q; exact q.elim
        | some z => simp only [e2] at q; exact .inl (reprW_ok R rm.zero e2 q)
      | dct ws =>
        simp only at q
        cases e2 : reprW (MO.dct ws).frz with
        | none => simp only [e2] at q; exact q.elim
        | some z => simp only [e2] at q; exact .inl (reprW_ok R rm.zero e2 q)
  | [.p w], rs, q =>
    obtain ⟨x, rfl, r1⟩ := rs.eq1
    have r1' : Rep G (Zf B ρ S) H w x := r1
    by_cases ho : ∃ C fs, w = .obj C fs
    · obtain ⟨C, fs, rfl⟩ := ho
      have r2 := r1'
      simp only [Rep] at r2
      obtain ⟨a, Ca, dx, vs, rfl, c, ea, _⟩ := r2
      exact ownS_ok x0 (by decide) R r1 c ea q
    · have q' : FinG G B (RpU G) Q ρ S H ((match reprW w with
          | some s => okP (.str s)
          | none => badM : M U) S) := by
        cases w <;> first | exact q | exact absurd ⟨_, _, rfl⟩ ho
      cases e2 : reprW w with
      | none => rw [e2] at q'; exact q'.elim
      | some z => rw [e2] at q'; exact .inl (reprW_ok R r1'.zero e2 q')
theorem opN_str (x0 : XP G F D X N sc) : OpN G (rOwnS X "__str__" rStrD) (prE F .str) := by
  intro B ρ S H us xs Q R rs q
  match us, rs, q with
  | [], _, q => exact q.elim
  | _ :: _ :: _, _, q => exact q.elim
  | [.loc n], rs, q =>
    obtain ⟨x, rfl, r1⟩ := rs.eq1
    obtain ⟨h1, rfl⟩ := r1
    simp only [prE, strM] at q
    rcases e : S[n]? with _ | _ | o
    · simp only [e] at q; exact q.elim
    · simp only [e] at q; exact q.elim
    · have rm := R.at_ n o e
      simp only [e] at q
      cases o with
      | ins C fs =>
        obtain ⟨Ca, dx, vs, c, ea, _⟩ := rm
        exact ownS_ok x0 (u := .loc n) (by decide) R ⟨h1, rfl⟩ c ea q
      | lst ws => exact q.elim
      | dct ws => exact q.elim
  | [.p w], rs, q =>
    obtain ⟨x, rfl, r1⟩ := rs.eq1
    have r1' : Rep G (Zf B ρ S) H w x := r1
    cases w with
    | obj C fs =>
      have r2 := r1'
      simp only [Rep] at r2
      obtain ⟨a, Ca, dx, vs, rfl, c, ea, _⟩ := r2
      exact ownS_ok x0 (by decide) R r1 c ea q
    | str z =>
      have e : x = .str z := by simpa [Rep] using r1'
      subst e
      exact .inl (.inr ⟨z, rfl, q.okU R (repS _)⟩)
    | int i =>
      have e : x = .int i := by simpa [Rep] using r1'
      subst e
      simp only [prE, strM] at q
      by_cases hl : i.natAbs < strLine
      · rw [if_pos hl] at q
        exact .inl (.inl ⟨i, rfl, log2_1920 hl, q.okU R (repS _)⟩)
      · rw [if_neg hl] at q
        exact q.elim
    | _ => exact q.elim
/-! ### f-strings -/
theorem fs_some {z : Str} {ps : List (Option Str)} {e : Expr} {es vs : List Expr} (h : fsArgs (some z :: ps) (e :: es) = some vs) : ∃ k pos, e = .Constant (.str z) k pos ∧ fsArgs ps es = some vs := by
  unfold fsArgs at h
  split at h
  · rename_i h1 _
    cases h1
  · rename_i h1 h2
    cases h1
    cases h2
    split at h
    · rename_i h3
      simp only [decide_eq_true_eq] at h3
      subst h3
      exact ⟨_, _, rfl, h⟩
    · cases h
  · rename_i h1 _
    cases h1
  · cases h
theorem fs_none {ps : List (Option Str)} {e : Expr} {es vs : List Expr} (h : fsArgs (none :: ps) (e :: es) = some vs) : ∃ e' pos vs', e = .FormattedValue e' (-1) none pos ∧ fsArgs ps es = some vs' ∧ vs = e' :: vs' := by
  unfold fsArgs at h
  split at h
  · rename_i h1 _
    cases h1
  · rename_i h1 h2
    cases h1
  · rename_i h1 h2
    cases h1
    cases h2
    split at h
    · rename_i h3
      simp only [decide_eq_true_eq] at h3
      subst h3
      obtain ⟨v', e1, e2⟩ := Option.map_eq_some_iff.mp h
      exact ⟨_, _, v', rfl, e1, e2.symm⟩
    · cases h
  · cases h
theorem fstr_len : ∀ {ps : List (Option Str)} {us : List U} {acc r : Str}, fstrW acc ps us = some r → acc.length ≤ r.length
  | [], [], acc, r, h => by
    simp only [fstrW, Option.some.injEq] at h
    subst h
    exact Nat.le_refl _
  | some z :: ps, us, acc, r, h => by
    simp only [fstrW] at h
    have := fstr_len h
    rw [strLen_append] at this
    omega
  | none :: ps, [], acc, r, h => by simp [fstrW] at h
  | none :: ps, u :: us, acc, r, h => by
    unfold fstrW at h
    split at h
    · rename_i h1 _
      cases h1
    · rename_i h1
      cases h1
    · rename_i h1 h2
      cases h1
      cases h2
      have := fstr_len h
      rw [strLen_append] at this
      omega
    · rename_i h1 h2
      cases h1
      cases h2
      split at h
      · have := fstr_len h
        rw [strLen_append] at this
        omega
      · cases h
    · cases h
  | [], _ :: _, acc, r, h => by simp [fstrW] at h
theorem AllPE.cons {as : List Ex} {e : Expr} {es : List Expr} (h : AllPE G F X as (e :: es)) : ∃ a as', as = a :: as' ∧ PE X e (rdE G (evE F a)) ∧ AllPE G F X as' es := by
  cases as with
  | nil => exact h.elim
  | cons a as => exact ⟨a, as, rfl, h.1, h.2⟩
abbrev RpS : RpT Str Str := fun _ _ _ _ a b => a = b
theorem fs_fin {B : List Addr} {ρ : Nat → Addr} {S : Sto} {H : Hp} {Q : Str → Hp → Prop} {m : M (List U)} {o : List U → Option Str} (q : FinG G B RpS Q ρ S H (M.bind m (fun us => match o us with
      | some s => if s.length ≤ bigLine then (fun S => .ok s S) else badM
      | none => badM) S)) : ∃ us r, o us = some r ∧ r.length ≤ bigLine := by
  unfold M.bind at q
  cases e : m S with
  | err _ _ _ => simp only [e] at q; exact q.elim
  | bad => simp only [e] at q; exact q.elim
  | ok us S1 =>
    simp only [e] at q
    cases e2 : o us with
    | none => simp only [e2] at q; exact q.elim
    | some r =>
      simp only [e2] at q
      by_cases h : r.length ≤ bigLine
      · exact ⟨us, r, e2, h⟩
      · simp only [if_neg h] at q; exact q.elim
theorem fs_snd : ∀ {ps : List (Option Str)} {es vs : List Expr} {as : List Ex}, fsArgs ps es = some vs → AllPE G F X as vs → ∃ ts, PJ X es ts ∧ ∀ (acc : Str) (σ : L2.St) (H : Hp) (Q : Str → Hp → Prop), (∃ B ρ S τ, RelS G B ρ S H ∧ RelL G B ρ S H τ σ ∧
    FinG G B RpS Q ρ S H (M.bind (evEs F as τ) (fun us => match fstrW acc ps us with
      | some s => if s.length ≤ bigLine then (fun S => .ok s S) else badM
      | none => badM) S)) → tJs ts acc σ H Q
  | [], [], vs, as, h, a => by
    simp only [fsArgs, Option.some.injEq] at h
    subst h
    obtain rfl := a.nil
    refine ⟨[], .nil, ?_⟩
    rintro acc σ H Q ⟨B, ρ, S, τ, R, L, q⟩
    simp only [evEs, M.bind, fstrW] at q
    split at q
    · exact q acc ρ H .refl R rfl
    · exact q.elim
  | some z :: ps, e :: es, vs, as, h, a => by
    obtain ⟨k, pos, rfl, h2⟩ := fs_some h
    obtain ⟨ts, p, hts⟩ := fs_snd h2 a
    refine ⟨_, .cons pe_str p, ?_⟩
    rintro acc σ H Q ⟨B, ρ, S, τ, R, L, q⟩
    simp only [fstrW] at q
    have len : ∀ us r, fstrW (acc ++ z) ps us = some r → (acc ++ z).length ≤ r.length := fun us r e => fstr_len e
    refine ⟨z, rfl, ?_, hts (acc ++ z) σ H Q ⟨B, ρ, S, τ, R, L, q⟩⟩
    obtain ⟨us, r, e, hr⟩ := fs_fin q
    exact Nat.le_trans (Nat.le_trans (len _ _ e) hr) big_line
  | none :: ps, e :: es, vs, as, h, a => by
    obtain ⟨e', pos, vs', rfl, h2, rfl⟩ := fs_none h
    obtain ⟨a1, as', rfl, h1, a'⟩ := a.cons
    obtain ⟨ts, p, hts⟩ := fs_snd h2 a'
    refine ⟨_, .cons (pe_fmt h1) p, ?_⟩
    rintro acc σ H Q ⟨B, ρ, S, τ, R, L, q⟩
    rw [evEs, bind_assoc'] at q
    refine ⟨B, ρ, S, τ, R, L, (FinG.bind (Rp := RpU G) q).imp ?_⟩
    rintro x H1 ⟨ρ1, S1, u, e1, R1, s1, r1, q1⟩
    rw [bind_assoc'] at q1
    simp only [pure_bind'] at q1
    obtain ⟨us0, r0, er0, _⟩ := fs_fin (o := fun us => fstrW acc (none :: ps) (u :: us)) q1
    match u, r1, q1, er0 with
    | .p (.str y), r1, q1, _ =>
      have ex : x = .str y := by simpa [RpU, RepU, Rep] using r1
      subst ex
      simp only [fstrW] at q1
      obtain ⟨us, r, er, hr⟩ := fs_fin q1
      have hl := Nat.le_trans (Nat.le_trans (fstr_len er) hr) big_line
      refine .inl ⟨y, rfl, ?_, y, rfl, hl, hts (acc ++ y) σ H1 Q ⟨B, ρ1, S1, τ, R1, L.stp s1 R, q1⟩⟩
      rw [strLen_append] at hl
      omega
    | .p (.int i), r1, q1, _ =>
      have ex : x = .int i := by simpa [RpU, RepU, Rep] using r1
      subst ex
      simp only [fstrW] at q1
      by_cases hi : i.natAbs < strLine
      · simp only [if_pos hi] at q1
        obtain ⟨us, r, er, hr⟩ := fs_fin q1
        exact .inr ⟨i, rfl, log2_1920 hi, _, rfl, Nat.le_trans (Nat.le_trans (fstr_len er) hr) big_line, hts _ σ H1 Q ⟨B, ρ1, S1, τ, R1, L.stp s1 R, q1⟩⟩
      · simp only [if_neg hi] at q1
        obtain ⟨us, r, er, hr⟩ := fs_fin (o := fun _ => none) q1
        cases er
    | .p .non, _, _, er => simp [fstrW] at er
    | .p (.bl _), _, _, er => simp [fstrW] at er
    | .p (.ty _), _, _, er => simp [fstrW] at er
    | .p (.fn _), _, _, er => simp [fstrW] at er
    | .p (.tup _), _, _, er => simp [fstrW] at er
    | .p (.lst _), _, _, er => simp [fstrW] at er
    | .p (.dct _), _, _, er => simp [fstrW] at er
    | .p (.obj _ _), _, _, er => simp [fstrW] at er
    | .loc _, _, _, er => simp [fstrW] at er
  | [], _ :: _, _, _, h, _ => by simp [fsArgs] at h
  | some _ :: _, [], _, _, h, _ => by simp [fsArgs] at h
  | none :: _, [], _, _, h, _ => by simp [fsArgs] at h
theorem rd_fstr {ps : List (Option Str)} {as : List Ex} {ts : List TE} (hts : ∀ (acc : Str) (σ : L2.St) (H : Hp) (Q : Str → Hp → Prop), (∃ B ρ S τ, RelS G B ρ S H ∧ RelL G B ρ S H τ σ ∧
    FinG G B RpS Q ρ S H (M.bind (evEs F as τ) (fun us => match fstrW acc ps us with
      | some s => if s.length ≤ bigLine then (fun S => .ok s S) else badM
      | none => badM) S)) → tJs ts acc σ H Q) : ∀ σ H Q, rdE G (evE F (.pr (.fstr ps) as)) σ H Q → tJs ts Str.empty σ H fun out H1 => Q (.str out) H1 := by
  rintro σ H Q ⟨B, ρ, S, τ, R, L, q⟩
  refine hts Str.empty σ H _ ⟨B, ρ, S, τ, R, L, ?_⟩
  rw [ev_prN] at q
  unfold M.bind at q ⊢
  cases e : evEs F as τ S with
  | err _ _ _ => simp only [e] at q; exact q.elim
  | bad => simp only [e] at q; exact q.elim
  | ok us S1 =>
    simp only [e, prE] at q ⊢
    cases e2 : fstrW Str.empty ps us with
    | none => simp only [e2] at q; exact q.elim
    | some r =>
      simp only [e2] at q ⊢
      by_cases h : r.length ≤ bigLine
      · simp only [if_pos h] at q ⊢
        intro b ρ' H' s R' hb
        have hb' : r = b := hb
        subst hb'
        exact q (.str r) ρ' H' s R' (by simp [RpU, RepU, Rep])
      · simp only [if_neg h] at q; exact q.elim
/-! ### list(range(..)) -/
theorem rg_snd (x0 : XP G F D X N sc) {e : Expr} {es : List Expr} {as : List Ex} (h : rgArgs D sc e = some es) (a : AllPE G F X as es) :
    (∃ a1, as = [a1] ∧ PRg X e (tRg1 (rdE G (evE F a1)))) ∨ ∃ a1 a2, as = [a1, a2] ∧ PRg X e (tRg2 (rdE G (evE F a1)) (rdE G (evE F a2))) := by
  unfold rgArgs at h
  split at h
  · split at h <;> cases h
    rename_i hq
    simp only [Bool.and_eq_true, decide_eq_true_eq, Bool.not_eq_true'] at hq
    obtain ⟨⟨⟨rfl, g1⟩, g2⟩, g3⟩ := hq
    obtain ⟨a1, rfl, h1⟩ := a.one
    exact .inl ⟨a1, rfl, prg_1 (gl_of x0.toXOk g1) (x0.free _ g2) h1 (star_cons g3)⟩
  · split at h <;> cases h
    rename_i hq
    simp only [Bool.and_eq_true, decide_eq_true_eq, Bool.not_eq_true'] at hq
    obtain ⟨⟨⟨⟨rfl, g1⟩, g2⟩, g3⟩, g4⟩ := hq
    obtain ⟨a1, a2, rfl, h1, h2⟩ := a.two
    exact .inr ⟨a1, a2, rfl, prg_2 (gl_of x0.toXOk g1) (x0.free _ g2) h1 h2 (star_cons g3) (star_cons g4) (star_any (by simp [g4]))⟩
  · cases h
theorem rng_rgV {Z : Addr → Prop} {H : Hp} {a b : Int} : Reps G Z H (rng a b) (rgV a b) := by
  unfold rng rgV
  generalize List.range (b - a).toNat = l
  induction l with
  | nil => exact Reps.nil
  | cons i l ih => exact Reps.cons (repI _) ih
theorem rgOk_of {a b : Int} (h : rngOk a b = true) : RgOk a b := by
  simp only [rngOk, Bool.and_eq_true, decide_eq_true_eq] at h
  exact ⟨by omega, by omega, by omega, by omega, by omega⟩
theorem rd_rg {te : L2.St → Hp → (Int → Int → Hp → Prop) → Prop} {as : List Ex} {f : Int → Int → M U} (ht : (∃ a1, as = [a1] ∧ te = tRg1 (rdE G (evE F a1))) ∨ ∃ a1 a2, as = [a1, a2] ∧ te = tRg2 (rdE G (evE F a1)) (rdE G (evE F a2)))
    {p : Pr} (hp : prE F p = rgM f) {Q : VK} {Q' : Int → Int → Hp → Prop} (hQ : ∀ a b B ρ S H1, RelS G B ρ S H1 → FinG G B (RpU G) Q ρ S H1 (f a b S) → Q' a b H1) : ∀ σ H, rdE G (evE F (.pr p as)) σ H Q → te σ H Q' := by
  rintro σ H ⟨B, ρ, S, τ, R, L, q⟩
  rw [ev_prN] at q
  rcases ht with ⟨a1, rfl, rfl⟩ | ⟨a1, a2, rfl, rfl⟩
  · simp only [evEs] at q
    rw [bind_assoc'] at q
    refine ⟨B, ρ, S, τ, R, L, (FinG.bind (Rp := RpU G) q).imp ?_⟩
    rintro x H1 ⟨ρ1, S1, u, e1, R1, s1, r1, q1⟩
    rw [bind_assoc'] at q1
    simp only [pure_bind', hp] at q1
    match u, r1, q1 with
    | .p (.int n), r1, q1 => exact ⟨n, by simpa [RpU, RepU, Rep] using r1, hQ _ _ B ρ1 S1 H1 R1 q1⟩
    | .p .non, _, q1 => exact q1.elim
    | .p (.bl _), _, q1 => exact q1.elim
    | .p (.str _), _, q1 => exact q1.elim
    | .p (.ty _), _, q1 => exact q1.elim
    | .p (.fn _), _, q1 => exact q1.elim
    | .p (.tup _), _, q1 => exact q1.elim
    | .p (.lst _), _, q1 => exact q1.elim
    | .p (.dct _), _, q1 => exact q1.elim
    | .p (.obj _ _), _, q1 => exact q1.elim
    | .loc _, _, q1 => exact q1.elim
  · simp only [evEs] at q
    rw [bind_assoc'] at q
    refine ⟨B, ρ, S, τ, R, L, (FinG.bind (Rp := RpU G) q).imp ?_⟩
    rintro x H1 ⟨ρ1, S1, u, e1, R1, s1, r1, q1⟩
    rw [bind_assoc', bind_assoc'] at q1
    refine ⟨B, ρ1, S1, τ, R1, L.stp s1 R, (FinG.bind (Rp := RpU G) q1).imp ?_⟩
    rintro y H2 ⟨ρ2, S2, v, e2, R2, s2, r2, q2⟩
    rw [bind_assoc'] at q2
    simp only [pure_bind', hp] at q2
    have r1' := RepU.stp s2 R1 r1
    match u, v, r1', r2, q2 with
    | .p (.int i), .p (.int j), r1', r2, q2 => exact ⟨i, j, by simpa [RpU, RepU, Rep] using r1', by simpa [RpU, RepU, Rep] using r2, hQ _ _ B ρ2 S2 H2 R2 q2⟩
    | .p (.int i), .p .non, _, _, q2 => exact q2.elim
    | .p (.int i), .p (.bl _), _, _, q2 => exact q2.elim
    | .p (.int i), .p (.str _), _, _, q2 => exact q2.elim
    | .p (.int i), .p (.ty _), _, _, q2 => exact q2.elim
    | .p (.int i), .p (.fn _), _, _, q2 => exact q2.elim
    | .p (.int i), .p (.tup _), _, _, q2 => exact q2.elim
    | .p (.int i), .p (.lst _), _, _, q2 => exact q2.elim
    | .p (.int i), .p (.dct _), _, _, q2 => exact q2.elim
    | .p (.int i), .p (.obj _ _), _, _, q2 => exact q2.elim
    | .p (.int i), .loc _, _, _, q2 => exact q2.elim
    | .p .non, _, _, _, q2 => exact q2.elim
    | .p (.bl _), _, _, _, q2 => exact q2.elim
    | .p (.str _), _, _, _, q2 => exact q2.elim
    | .p (.ty _), _, _, _, q2 => exact q2.elim
    | .p (.fn _), _, _, _, q2 => exact q2.elim
    | .p (.tup _), _, _, _, q2 => exact q2.elim
    | .p (.lst _), _, _, _, q2 => exact q2.elim
    | .p (.dct _), _, _, _, q2 => exact q2.elim
    | .p (.obj _ _), _, _, _, q2 => exact q2.elim
    | .loc _, _, _, _, q2 => exact q2.elim
/-- int(..) of a text of figures, of an int, of True and False -/
def rIntD : List V → Hp → VK → Prop := fun xs H Q => (∃ i, xs = [.int i] ∧ Q (.int i) H) ∨ (∃ b, xs = [.bl b] ∧ Q (.int (if b then 1 else 0)) H) ∨ ∃ z i, xs = [.str z] ∧ PySem.intText? z = some i ∧ z.length ≤ 640 ∧ Q (.int i) H
theorem call_intA (x0 : XP G F D X N sc) : CallR X (.type "int") rIntD := by
  intro pins s σ H xs us Q I r h
  rcases h with ⟨i, rfl, q⟩ | ⟨b, rfl, q⟩ | ⟨z, i, rfl, hi, hz, q⟩
  · obtain ⟨u, rfl, t, rfl⟩ := vals1 r
    exact call_int_int ⟨.int i, H, I, ⟨t, rfl⟩, q⟩
  · obtain ⟨u, rfl, ru⟩ := vals1 r
    obtain rfl : u = Value.bool b := ru
    exact call_int_bool ⟨.int _, H, I.tok _, ⟨_, rfl⟩, q⟩
  · obtain ⟨u, rfl, t, rfl⟩ := vals1 r
    exact PySem.W.KIN.call_text hi hz ⟨.int _, H, I.tok _, ⟨_, rfl⟩, q⟩
theorem opN_int : OpN G rIntD (prE F .int) := by
  have h1 : Op1 G (fun x H Q => rIntD [x] H Q) fun u => p1 intW [u] := op1_p1 fun B ρ S H a w x Q R r e q => by
    cases a with
    | int i =>
      have ex : x = .int i := by simpa [Rep0, Rep] using r
      subst ex
      simp only [intW, Option.some.injEq] at e
      subst e
      exact .inl ⟨i, rfl, q.okU R (repI _)⟩
    | bl b =>
      have ex : x = .bl b := by simpa [Rep0, Rep] using r
      subst ex
      simp only [intW, Option.some.injEq] at e
      subst e
      exact .inr (.inl ⟨b, rfl, q.okU R (repI _)⟩)
    | str z =>
      have ex : x = .str z := by simpa [Rep0, Rep] using r
      subst ex
      simp only [intW] at e
      split at e
      · rename_i hz
        obtain ⟨i, hi, rfl⟩ := Option.map_eq_some_iff.mp e
        exact .inr (.inr ⟨z, i, rfl, hi, hz, q.okU R (repI _)⟩)
      · cases e
    | _ => simp [intW] at e
  intro B ρ S H us xs Q R rs q
  match us, rs, q with
  | [], _, q => exact q.elim
  | _ :: _ :: _, _, q => exact q.elim
  | [u], rs, q =>
    obtain ⟨x, rfl, r1⟩ := rs.eq1
    exact h1 B ρ S H u x Q R r1 q
theorem prY_snd (x0 : XP G F D X N sc) {p : Pr} {e : Expr} {es : List Expr} {as : List Ex} (h : argsY D sc p e = some es) (a : AllPE G F X as es) : PE X e (rdE G (evE F (.pr p as))) := by
  unfold argsY at h
  split at h
  · split at h <;> cases h
    rename_i hq
    simp only [Bool.and_eq_true, decide_eq_true_eq, Bool.not_eq_true'] at hq
    obtain ⟨⟨⟨rfl, g1⟩, g2⟩, g3⟩ := hq
    rw [ev_prN]
    exact PE.imp (pe_callB (call_reprA x0) (gl_of x0.toXOk g1) (x0.free _ g2) (by decide +kernel) (pa_of a (by simp [g3])) (by decide) (by decide) (star_cons g3) (star_any (by simp [g3]))) (rd_cb (opN_repr x0))
  · split at h <;> cases h
    rename_i hq
    simp only [Bool.and_eq_true, decide_eq_true_eq, Bool.not_eq_true'] at hq
    obtain ⟨⟨⟨rfl, g1⟩, g2⟩, g3⟩ := hq
    rw [ev_prN]
    exact PE.imp (pe_callTy (call_strA x0) (gl_of x0.toXOk g1) (x0.free _ g2) (by decide +kernel) (pa_of a (by simp [g3])) (by decide) (by decide) (star_cons g3) (star_any (by simp [g3]))) (rd_cb (opN_str x0))
  · split at h <;> cases h
    rename_i hq
    simp only [Bool.and_eq_true, decide_eq_true_eq, Bool.not_eq_true'] at hq
    obtain ⟨⟨⟨rfl, g1⟩, g2⟩, g3⟩ := hq
    rw [ev_prN]
    exact PE.imp (pe_callTy (call_intA x0) (gl_of x0.toXOk g1) (x0.free _ g2) (by decide +kernel) (pa_of a (by simp [g3])) (by decide) (by decide) (star_cons g3) (star_any (by simp [g3]))) (rd_cb opN_int)
  · split at h
    · rename_i ps fes pos hq
      simp only [Bool.and_eq_true, decide_eq_true_eq, Bool.not_eq_true'] at hq
      obtain ⟨ts, pj, hts⟩ := fs_snd (F := F) h a
      cases pj with
      | nil =>
        have := hq.2
        simp at this
      | cons p1 pr =>
        cases pr with
        | nil =>
          have := hq.2
          simp at this
        | cons p2 pr2 => exact PE.imp (pe_joined (.cons p1 (.cons p2 pr2))) (rd_fstr hts)
    · cases h
  · split at h
    · rename_i m x xp e1 pos hq
      simp only [Bool.and_eq_true, decide_eq_true_eq, Bool.not_eq_true'] at hq
      obtain ⟨⟨⟨rfl, g1⟩, g2⟩, g3⟩ := hq
      have go : ∀ te, PRg X e1 te → ((∃ a1, as = [a1] ∧ te = tRg1 (rdE G (evE F a1))) ∨ ∃ a1 a2, as = [a1, a2] ∧ te = tRg2 (rdE G (evE F a1)) (rdE G (evE F a2))) → PE X (.Call (.Name "list" xp) [e1] [] pos) (rdE G (evE F (.pr (.lrange m) as))) := by
        intro te pr ht
        refine PE.imp (pe_listRg x0.calm (gl_of x0.toXOk g1) (x0.free _ g2) pr (star_cons g3)) fun σ H Q q => ?_
        refine rd_rg ht (p := .lrange m) (by unfold prE; rfl) (fun a b B ρ S H1 R1 q1 => ?_) σ H q
        by_cases hr : rngOk a b = true
        · simp only [if_pos hr] at q1
          refine ⟨rgOk_of hr, fun p np => ?_⟩
          cases m with
          | false => exact fin_lst q1 R1 rng_rgV np
          | true => exact fin_newL q1 R1 rng_rgV np
        · simp only [if_neg hr] at q1
          exact q1.elim
      rcases rg_snd x0 h a with ⟨a1, rfl, pr⟩ | ⟨a1, a2, rfl, pr⟩
      · exact go _ pr (.inl ⟨a1, rfl, rfl⟩)
      · exact go _ pr (.inr ⟨a1, a2, rfl, rfl⟩)
    · cases h
  · split at h
    · rename_i x xp e1 pos hq
      simp only [Bool.and_eq_true, decide_eq_true_eq, Bool.not_eq_true'] at hq
      obtain ⟨⟨⟨rfl, g1⟩, g2⟩, g3⟩ := hq
      have go : ∀ te, PRg X e1 te → ((∃ a1, as = [a1] ∧ te = tRg1 (rdE G (evE F a1))) ∨ ∃ a1 a2, as = [a1, a2] ∧ te = tRg2 (rdE G (evE F a1)) (rdE G (evE F a2))) → PE X (.Call (.Name "tuple" xp) [e1] [] pos) (rdE G (evE F (.pr .trange as))) := by
        intro te pr ht
        refine PE.imp (pe_tupRg x0.calm (gl_of x0.toXOk g1) (x0.free _ g2) pr (star_cons g3)) fun σ H Q q => ?_
        refine rd_rg ht (p := .trange) (by unfold prE; rfl) (fun a b B ρ S H1 R1 q1 => ?_) σ H q
        by_cases hr : rngOk a b = true
        · simp only [if_pos hr] at q1
          exact ⟨rgOk_of hr, fun p np => fin_tup q1 R1 rng_rgV np⟩
        · simp only [if_neg hr] at q1
          exact q1.elim
      rcases rg_snd x0 h a with ⟨a1, rfl, pr⟩ | ⟨a1, a2, rfl, pr⟩
      · exact go _ pr (.inl ⟨a1, rfl, rfl⟩)
      · exact go _ pr (.inr ⟨a1, a2, rfl, rfl⟩)
    · cases h
  · cases h
/-- such a one is a plain test -/
theorem argsX_plain {D : Ds} {sc : Scope} {p : Pr} {e : Expr} {es : List Expr} (h : argsX D sc p e = some es) : plainT e = true := by
  unfold argsX at h
  split at h <;> first | rfl | cases h
theorem argsY_plain {D : Ds} {sc : Scope} {p : Pr} {e : Expr} {es : List Expr} (h : argsY D sc p e = some es) : plainT e = true := by
  unfold argsY at h
  split at h <;> first | rfl | cases h
theorem pr_snd (x0 : XP G F D X N sc) {p : Pr} {e : Expr} {es : List Expr} {as : List Ex} (h : argsOf D sc p e = some es) (a : AllPE G F X as es) : PE X e (rdE G (evE F (.pr p as))) := by
  unfold argsOf at h
  split at h
  · cases h
    rename_i hb
    exact prB_snd x0 hb a
  · split at h
    · cases h
      rename_i hb
      exact prX_snd x0 hb a
    · exact prY_snd x0 h a
end
end Pm
end
section
set_option Elab.async false
set_option linter.all false
set_option maxHeartbeats 2000000
/-! Pm9c: methods of texts and lists that change nothing. -/
namespace Pm
open PySem PySem.Spec PyProof.Rows L2
section
variable {G : Gx} {F : Cf} {D : Ds} {X : Cx} {N : List Str} {sc : Scope}
theorem evEs_one {α : Type} {a : Ex} {τ : Lo} {k : List U → M α} : M.bind (evEs F [a] τ) k = M.bind (evE F a τ) fun v => k [v] := by
  simp only [evEs]
  rw [bind_assoc']
  rfl
/-- the method's rule over small values; u: the object -/
def OpM (G : Gx) (r : V → List V → Hp → VK → Prop) (ok : W → Prop) (g : W → U → M U) : Prop := ∀ (B : List Addr) (ρ : Nat → Addr) (S S1 : Sto) (H H1 : Hp) (w : W) (x : V) (u : U) (y : V) (Q : VK), ok w → RelS G B ρ S H → RepU G B ρ S H u y → Rep G (Zf B ρ S) H w x →
  FinG G B (RpU G) Q ρ S H (g w u S) → r x [y] H Q
theorem rd_meth {p : Pr} {o a : Ex} {ok : W → Prop} {tyo : V → Hp → Prop} {r : V → List V → Hp → VK → Prop} (hr : ∀ u S S', recvOk p u S = .ok () S' → S' = S ∧ ∃ w, u = .p w ∧ ok w)
    (ht : ∀ (B : List Addr) (ρ : Nat → Addr) (S : Sto) (H : Hp) (w : W) (x : V), ok w → Rep G (Zf B ρ S) H w x → tyo x H) (hop : OpM G r ok fun w u => prE F p [.p w, u]) :
    ∀ σ H Q, rdE G (evE F (.meth p o [a])) σ H Q → rdE G (evE F o) σ H fun x H1 => tyo x H1 ∧ rdE G (evE F a) σ H1 fun y H2 => r x [y] H2 Q := by
  rintro σ H Q ⟨B, ρ, S, τ, R, L, q⟩
  simp only [evE] at q
  refine ⟨B, ρ, S, τ, R, L, (FinG.bind (Rp := RpU G) q).imp ?_⟩
  rintro x H1 ⟨ρ1, S1, u, e1, R1, s1, r1, q1⟩
  cases er : recvOk p u S1 with
  | err _ _ _ => unfold M.bind at q1; rw [er] at q1; exact q1.elim
  | bad => unfold M.bind at q1; rw [er] at q1; exact q1.elim
  | ok _ S1' =>
    obtain ⟨rfl, w, rfl, hw⟩ := hr _ _ _ er
    have q2 : FinG G B (RpU G) Q ρ1 S1' H1 (M.bind (evEs F [a] τ) (fun us => prE F p (.p w :: us)) S1') := by
      unfold M.bind at q1
      rw [er] at q1
      exact q1
    have r1' : Rep G (Zf B ρ1 S1') H1 w x := r1
    refine ⟨ht B ρ1 S1' H1 w x hw r1', B, ρ1, S1', τ, R1, L.stp s1 R, ?_⟩
    rw [evEs_one] at q2
    refine (FinG.bind (Rp := RpU G) q2).imp ?_
    rintro y H2 ⟨ρ2, S2, v, e2, R2, s2, r2, q3⟩
    exact hop B ρ2 S2 S2 H2 H2 w x v y Q hw R2 r2 (Rep.stay (s2.stay R1) r1') q3
/-- a pure method of two values -/
theorem opM_p2 {r : V → List V → Hp → VK → Prop} {ok : W → Prop} {g : W → W → Option W} (h : ∀ (B : List Addr) (ρ : Nat → Addr) (S : Sto) (H : Hp) (a b w : W) (x y : V) (Q : VK), ok a → RelS G B ρ S H → Rep G (Zf B ρ S) H a x → Rep0 G (Zf B ρ S) H b y → g a b = some w →
    FinG G B (RpU G) Q ρ S H (.ok (.p w) S) → r x [y] H Q) : OpM G r ok fun w u => p2 g [.p w, u] := by
  intro B ρ S S1 H H1 w x u y Q hw R ru rw' q
  unfold p2 M.bind at q
  simp only [rdU] at q
  cases e1 : rdU u S with
  | err _ _ _ => unfold rdU at e1; simp only [e1] at q; exact q.elim
  | bad => unfold rdU at e1; simp only [e1] at q; exact q.elim
  | ok b S2 =>
    obtain ⟨rfl, p1⟩ := rdU_ok R ru e1
    unfold rdU at e1
    simp only [e1] at q
    cases e2 : g w b with
    | none => simp only [e2] at q; exact q.elim
    | some z => simp only [e2] at q; exact h B ρ S2 H w b z x y Q hw R rw' p1 e2 q
def isStrW (w : W) : Prop := ∃ s, w = .str s
def isLstW (w : W) : Prop := ∃ ws, w = .lst ws
theorem recv_str {p : Pr} (hp : p = .join ∨ p = .split ∨ p = .find) (u : U) (S S' : Sto) (h : recvOk p u S = .ok () S') : S' = S ∧ ∃ w, u = .p w ∧ isStrW w := by
  rcases hp with rfl | rfl | rfl
  all_goals
    cases u with
    | loc n => simp [recvOk, badM] at h
    | p w =>
      cases w with
      | str z =>
        simp only [recvOk] at h
        cases h
        exact ⟨rfl, _, rfl, _, rfl⟩
      | _ => simp [recvOk, badM] at h
theorem recv_lstF {p : Pr} (hp : p = .count) (u : U) (S S' : Sto) (h : recvOk p u S = .ok () S') : S' = S ∧ ∃ w, u = .p w ∧ isLstW w := by
  subst hp
  all_goals
    cases u with
    | loc n => simp [recvOk, badM] at h
    | p w =>
      cases w with
      | lst z =>
        simp only [recvOk] at h
        cases h
        exact ⟨rfl, _, rfl, _, rfl⟩
      | _ => simp [recvOk, badM] at h
def rJoin (K : PySem.W.Frag) : V → List V → Hp → VK → Prop := fun x xs H Q => ∃ a p, ∃ ys : List Str, x = .str a ∧ xs = [.ref p] ∧ (SqL K H p (ys.map V.str) ∨ SqT K H p (ys.map V.str)) ∧ (ys.map (·.length)).sum + ys.length * a.length ≤ 16777216 ∧ Q (.str (Txt.join a ys)) H
theorem op_join : OpM G (rJoin G.K) isStrW fun w u => prE F .join [.p w, u] := by
  refine opM_p2 fun B ρ S H a b w x y Q hw R r1 r2 e q => ?_
  obtain ⟨sep, rfl⟩ := hw
  cases b <;> simp only [Option.bind_eq_some_iff, reduceCtorEq] at e
  rename_i ws
  obtain ⟨ss, e1, e2⟩ := e
  split at e2 <;> cases e2
  rename_i hz
  have ex : x = .str sep := by simpa [Rep] using r1
  obtain ⟨p, vs, rfl, h, t⟩ := rep0_lst r2
  rw [strs_rep e1 t] at h
  refine ⟨sep, p, ss, ex, rfl, .inl (.inl h), ?_, q.okU R (repS _)⟩
  unfold sizeS at hz
  have : bigLine ≤ 16777216 := by decide
  omega
theorem reps_strs {Z : Addr → Prop} {H : Hp} : ∀ ss : List Str, Reps G Z H (ss.map W.str) (ss.map V.str)
  | [] => Reps.nil
  | _ :: ss => Reps.cons (repS _) (reps_strs ss)
def rSplit : V → List V → Hp → VK → Prop := fun x xs H Q => ∃ a b, x = .str a ∧ xs = [.str b] ∧ (b.length == 0) = false ∧ a.length + 2 ≤ sizeLine ∧ rNewStrs (Txt.split a b) H Q
theorem op_split : OpM G rSplit isStrW fun w u => prE F .split [.p w, u] := by
  refine opM_p2 fun B ρ S H a b w x y Q hw R r1 r2 e q => ?_
  obtain ⟨s, rfl⟩ := hw
  cases b <;> simp only [reduceCtorEq] at e
  rename_i sep
  split at e <;> cases e
  rename_i hz
  have ex : x = .str s := by simpa [Rep] using r1
  rw [rep0_str r2]
  refine ⟨s, sep, ex, rfl, by simpa using hz.1, ?_, fun p n => ?_⟩
  · have h1 := hz.2
    have : bigLine + 2 ≤ sizeLine := by rw [sizeLine_eq]; decide
    omega
  · first | exact fin_lst q R (reps_strs _) n | (refine ⟨?_, fin_lst q R (reps_strs _) n⟩)
def rFind : V → List V → Hp → VK → Prop := fun x xs H Q => ∃ a b, x = .str a ∧ xs = [.str b] ∧ Q (.int (Txt.find a b)) H
theorem op_find : OpM G rFind isStrW fun w u => prE F .find [.p w, u] := by
  refine opM_p2 fun B ρ S H a b w x y Q hw R r1 r2 e q => ?_
  obtain ⟨s, rfl⟩ := hw
  cases b <;> simp only [Option.some.injEq, reduceCtorEq] at e
  subst e
  have ex : x = .str s := by simpa [Rep] using r1
  rw [rep0_str r2]
  exact ⟨s, _, ex, rfl, q.okU R (repI _)⟩
/-- the receiver may be a place -/
theorem rd_methU {p : Pr} {o a : Ex} {tyo : V → Hp → Prop} {r : V → List V → Hp → VK → Prop} (hr : ∀ u S S', recvOk p u S = .ok () S' → S' = S ∧ ∀ (B : List Addr) (ρ : Nat → Addr) (H : Hp) (x : V), RelS G B ρ S H → RepU G B ρ S H u x → tyo x H)
    (hop : Op2 G (fun x y H Q => r x [y] H Q) fun u v => prE F p [u, v]) :
    ∀ σ H Q, rdE G (evE F (.meth p o [a])) σ H Q → rdE G (evE F o) σ H fun x H1 => tyo x H1 ∧ rdE G (evE F a) σ H1 fun y H2 => r x [y] H2 Q := by
  rintro σ H Q ⟨B, ρ, S, τ, R, L, q⟩
  simp only [evE] at q
  refine ⟨B, ρ, S, τ, R, L, (FinG.bind (Rp := RpU G) q).imp ?_⟩
  rintro x H1 ⟨ρ1, S1, u, e1, R1, s1, r1, q1⟩
  cases er : recvOk p u S1 with
  | err _ _ _ => unfold M.bind at q1; rw [er] at q1; exact q1.elim
  | bad => unfold M.bind at q1; rw [er] at q1; exact q1.elim
  | ok _ S1' =>
    obtain ⟨rfl, hw⟩ := hr _ _ _ er
    have q2 : FinG G B (RpU G) Q ρ1 S1' H1 (M.bind (evEs F [a] τ) (fun us => prE F p (u :: us)) S1') := by
      unfold M.bind at q1
      rw [er] at q1
      exact q1
    refine ⟨hw B ρ1 H1 x R1 r1, B, ρ1, S1', τ, R1, L.stp s1 R, ?_⟩
    rw [evEs_one] at q2
    refine (FinG.bind (Rp := RpU G) q2).imp ?_
    rintro y H2 ⟨ρ2, S2, v, e2, R2, s2, r2, q3⟩
    exact hop B ρ2 S2 H2 u v x y Q R2 (RepU.stp s2 R1 r1) r2 q3
theorem recv_index (K : PySem.W.Frag) (u : U) (S S' : Sto) (h : recvOk .index u S = .ok () S') : S' = S ∧ ∀ (B : List Addr) (ρ : Nat → Addr) (H : Hp) (x : V), RelS G B ρ S H → RepU G B ρ S H u x → tyV K "list" x H := by
  cases u with
  | p w =>
    cases w with
    | lst z =>
      simp only [recvOk] at h
      cases h
      refine ⟨rfl, fun B ρ H x R r => ?_⟩
      simp only [RepU, Rep] at r
      obtain ⟨p, vs, rfl, h, _, _⟩ := r
      exact .inl ⟨rfl, vs, .inl h⟩
    | _ => simp [recvOk, badM] at h
  | loc n =>
    simp only [recvOk] at h
    cases e : S[n]? with
    | none => simp only [e] at h; cases h
    | some o =>
      cases o with
      | none => simp only [e] at h; cases h
      | some o =>
        cases o with
        | lst ws =>
          simp only [e] at h
          cases h
          refine ⟨rfl, fun B ρ H x R r => ?_⟩
          obtain rfl := r.2
          obtain ⟨vs, hv, _⟩ := R.at_ n _ e
          exact .inl ⟨rfl, vs, .inl (.inl hv)⟩
        | dct _ => simp only [e] at h; cases h
        | ins _ _ => simp only [e] at h; cases h
theorem toDs_get : ∀ {xs : List W} {k : Nat}, (toDs xs)[k]? = (xs[k]?).map toD
  | [], k => by simp [toDs]
  | x :: xs, 0 => by simp [toDs]
  | x :: xs, k + 1 => by simp only [toDs, List.getElem?_cons_succ, toDs_get (xs := xs)]
theorem mt_index2 (hu : X.A.units + 65 < cLine) : MtR X "list.index" (fun x xs H Q => rIndex X.K x xs H Q ∨ rIndexD X.K x xs H Q) := by
  intro pins s σ H x xs v us Q I rx rxs h
  rcases h with h | h
  · exact mt_index pins s σ H x xs v us Q I rx rxs h
  · exact mt_indexD hu pins s σ H x xs v us Q I rx rxs h
theorem op_index : Op2 G (fun x y H Q => rIndex G.K x [y] H Q ∨ rIndexD G.K x [y] H Q) fun u v => prE F .index [u, v] := by
  refine op2_p2 fun B ρ S H a b w x y Q R r1 r2 e q => ?_
  cases a <;> simp only [reduceCtorEq] at e
  rename_i ws
  split at e
  · rename_i hf
    simp only [Bool.and_eq_true] at hf
    obtain ⟨k, e1, rfl⟩ := Option.map_eq_some_iff.mp e
    obtain ⟨p, vs, rfl, h, t⟩ := rep0_lst r1
    have rb : Rep G (Zf B ρ S) H b y := by
      have := hf.1
      cases b <;> first | exact r2 | simp [flatW] at this
    obtain ⟨f1, f2⟩ := flats_rep hf.1 rb hf.2 t
    obtain ⟨hl, he, hno⟩ := List.findIdx?_eq_some_iff_getElem.mp e1
    obtain ⟨v, hv, rv⟩ := t.get (List.getElem?_eq_getElem hl)
    have fb := flat_rep hf.1 rb
    have eqv : ∀ (j : Nat) (w' : W) (v' : V), ws[j]? = some w' → vs[j]? = some v' → eqV v' y = eqW w' b := fun j w' v' h1 h2 => by
      obtain ⟨v2, h3, r3⟩ := t.get h1
      rw [h2] at h3; cases h3
      have fw : flatW w' = true := (List.all_eq_true.mp hf.2) w' (List.mem_of_getElem? h1)
      exact (flat_rep fw r3).2 hf.1 rb
    refine .inl ⟨p, vs, y, k, v, rfl, rfl, .inl h, fb.1, f1, hv, ?_, fun m z' hm hz' => ?_, q.okU R (repI _)⟩
    · rw [eqv k _ v (List.getElem?_eq_getElem hl) hv]
      exact he
    · have hmw : m < ws.length := by omega
      rw [eqv m _ z' (List.getElem?_eq_getElem hmw) hz']
      simpa using hno m hm
  · split at e
    · rename_i hf
      obtain ⟨c1, c2⟩ := Bool.and_eq_true_iff.mp hf
      obtain ⟨k, e1, rfl⟩ := Option.map_eq_some_iff.mp e
      obtain ⟨p, vs, rfl, h, t⟩ := rep0_lst r1
      obtain ⟨k1, k2, k3, k4, _⟩ := inD_ok R r2 r1 c1 c2
      obtain ⟨hl, he, hno⟩ := List.findIdx?_eq_some_iff_getElem.mp e1
      have dall : ∀ w' ∈ ws, dataN 59 w' = true := by
        have : ws.all (dataN 59) = true := by simpa [dataW, dataN] using c2
        exact List.all_eq_true.mp this
      have ev : ∀ w' ∈ ws, PyData.eqv (toD w') (toD b) = eqW w' b := fun w' hw' => eqv_of 60 (dataN_up 59 (dall w' hw')) c1
      refine .inr ⟨p, y, toD b, toDs ws, k, toD ws[k], rfl, rfl, k2, k1, k4, k3, ?_, ?_, fun m z' hm hz' => ?_, q.okU R (repI _)⟩
      · rw [toDs_get, List.getElem?_eq_getElem hl]; rfl
      · rw [ev _ (List.getElem_mem hl)]; exact he
      · have hmw : m < ws.length := by omega
        rw [toDs_get, List.getElem?_eq_getElem hmw] at hz'
        cases hz'
        rw [ev _ (List.getElem_mem hmw)]
        simpa using hno m hm
    · cases e
/-! list.count of texts -/
def eqz (z : Str) (v : Value) : Bool := match v with
  | .str y _ => y == z
  | _ => false
theorem eqz_gives {z : Str} {t : Tok} : ∀ {ss : List Str} {us : List Value}, Vals (ss.map V.str) us → (∀ y ∈ us, MeetsSeq.EqGives y (.str z t) (eqz z y)) ∧ us.countP (eqz z) = ss.count z
  | [], _, r => by
    cases r
    exact ⟨fun y hy => (by cases hy), rfl⟩
  | y :: ss, _, r => by
    cases r with
    | cons r1 r2 =>
      obtain ⟨t1, rfl⟩ := r1
      obtain ⟨a, b⟩ := eqz_gives (z := z) (t := t) r2
      refine ⟨fun v hv => ?_, ?_⟩
      · rcases List.mem_cons.mp hv with e | e
        · rw [e]
          have := SeqRoads2.EqGives.str y z t1 t
          rw [show eqz z (.str y t1) = (y == z) from rfl, ← SeqAt.str_beq]; exact this
        · exact a v e
      · rw [List.countP_cons, List.count_cons, b]
        rfl
def rCntS (K : PySem.W.Frag) : V → List V → Hp → VK → Prop := fun x xs H Q => ∃ (p : Addr) (ss : List Str) (z : Str), x = .ref p ∧ xs = [.str z] ∧ SqL K H p (ss.map V.str) ∧ Q (.int ((ss.count z : Nat) : Int)) H
theorem mt_lcountS : MtR X "list.count" (rCntS X.K) := by
  intro pins s σ H x xs v us Q I rx rxs h
  obtain ⟨p, ss, z, rfl, rfl, hs, q⟩ := h
  obtain rfl : v = Value.ref p := rx
  obtain ⟨u, rfl, t, rfl⟩ := vals1 rxs
  obtain ⟨its, rv, ⟨⟨cls, dd, data, sl⟩, n, ho, hc, hdn, hd⟩, hlen⟩ := I.list hs
  simp only at hc hd
  subst hc hd
  obtain ⟨g1, g2⟩ := eqz_gives (z := z) (t := t) rv
  refine call_meets PySem.F.slot_list_count ⟨_, ho, rfl⟩ PySem.F.entry_list_count (PySem.F.args_list_count_2 _ _) (SeqAt.list_countAt p its.toArray n dd sl (.str z t) (eqz z)) ⟨ho, fun y hy => (g1 y (by simpa using hy)).at _ _, ?_⟩
  refine ⟨.int ((ss.count z : Nat) : Int), H, I.tok _, ⟨s.toks, ?_⟩, q⟩
  show Value.int ((its.toArray.toList.countP (eqz z) : Nat) : Int) s.toks = _
  rw [show its.toArray.toList = its by simp, g2]
theorem op_count : OpM G (rCntS G.K) isLstW fun w u => prE F .count [.p w, u] := by
  refine opM_p2 fun B ρ S H a b w x y Q hw R r1 r2 e q => ?_
  obtain ⟨ws, rfl⟩ := hw
  cases b <;> simp only [Option.map_eq_some_iff, reduceCtorEq] at e
  rename_i z
  obtain ⟨ss, e1, rfl⟩ := e
  simp only [Rep] at r1
  obtain ⟨p, vs, rfl, h, _, t⟩ := r1
  rw [strs_rep e1 t] at h
  rw [rep0_str r2]
  exact ⟨p, ss, z, rfl, rfl, .inl h, q.okU R (repI _)⟩
theorem meth_snd (x0 : XP G F D X N sc) {p : Pr} {e eo : Expr} {es : List Expr} {o : Ex} {as : List Ex} (h : methOf p e = some (eo, es)) (ho : PE X eo (rdE G (evE F o))) (a : AllPE G F X as es) : PE X e (rdE G (evE F (.meth p o as))) := by
  cases hp : methN p with
  | none => exact methA_snd x0 hp h ho a
  | some nm =>
    unfold methOf at h
    split at h
    · cases hp
    · cases hp
    · rename_i m apos e0 pos _ _
      rw [hp] at h
      simp only at h
      split at h <;> cases h
      rename_i hq
      simp only [Bool.and_eq_true, decide_eq_true_eq, Bool.not_eq_true'] at hq
      obtain ⟨⟨⟨rfl, b1⟩, b2⟩, b3⟩ := hq
      obtain ⟨a2, rfl, h2⟩ := a.one
      have strT : ∀ (B : List Addr) (ρ : Nat → Addr) (S : Sto) (H : Hp) (w : W) (x : V), isStrW w → Rep G (Zf B ρ S) H w x → (fun x (_ : Hp) => ∃ a, x = V.str a) x H := fun B ρ S H w x ⟨z, hz⟩ r => by
        subst hz
        exact ⟨z, by simpa [Rep] using r⟩
      have lstT : ∀ (B : List Addr) (ρ : Nat → Addr) (S : Sto) (H : Hp) (w : W) (x : V), isLstW w → Rep G (Zf B ρ S) H w x → tyV X.K "list" x H := fun B ρ S H w x ⟨z, hz⟩ r => by
        subst hz
        simp only [Rep] at r
        obtain ⟨p, vs, rfl, h, _, _⟩ := r
        exact .inl ⟨rfl, vs, .inl h⟩
      cases p <;> simp only [methN, Option.some.injEq, reduceCtorEq] at hp <;> subst hp
      · exact PE.imp (pe_m1 PySem.F.slot_str_join PySem.F.type_str_join (x0.kk ▸ mt_join) ho h2 (by rw [star_cons b2]; rfl) (base_ok b1) b3) (rd_meth (recv_str (.inl rfl)) strT op_join)
      · exact PE.imp (pe_m1 PySem.F.slot_str_split PySem.F.type_str_split mt_split ho h2 (by rw [star_cons b2]; rfl) (base_ok b1) b3) (rd_meth (recv_str (.inr (.inl rfl))) strT op_split)
      · exact PE.imp (pe_bm PySem.F.plainAttrs_list PySem.F.slot_list_count PySem.F.type_list_count (x0.kk ▸ mt_lcountS) ho (pa_cons h2 pa_nil (star_cons b2)) (base_ok b1) (by rw [star_cons b2]; rfl) b3 (star_cons b2) rfl) (rd_meth (recv_lstF rfl) lstT op_count)
      · exact PE.imp (pe_bm PySem.F.plainAttrs_list PySem.F.slot_list_index PySem.F.type_list_index (x0.kk ▸ mt_index2 (by have := x0.un; omega)) ho (pa_cons h2 pa_nil (star_cons b2)) (base_ok b1) (by rw [star_cons b2]; rfl) b3 (star_cons b2) rfl) (rd_methU (recv_index X.K) op_index)
      · exact PE.imp (pe_m1 PySem.F.slot_str_find PySem.F.type_str_find mt_find ho h2 (by rw [star_cons b2]; rfl) (base_ok b1) b3) (rd_meth (recv_str (.inr (.inr rfl))) strT op_find)
    · cases h
end
end Pm
end
section
set_option Elab.async false
set_option linter.all false
set_option maxHeartbeats 2000000
/-! Pm10: expressions: the small evaluator's reading holds of the text. -/
namespace Pm
open PySem PySem.Spec PyProof.Rows L2

section
variable {G : Gx} {F : Cf} {D : Ds} {X : Cx} {N : List Str} {sc : Scope}

/-! ### truth -/
theorem tru_snd {B : List Addr} {ρ : Nat → Addr} {S : Sto} {H : Hp} {u : U} {x : V} {Q : Bool → Hp → Prop} (R : RelS G B ρ S H) (r : RepU G B ρ S H u x) (q : FinG G B RpB Q ρ S H (truU u S)) : ∃ k, TruV G.K x H k ∧ Q k H := by
  simp only [truU, M.bind] at q
  cases e1 : rdU u S with
  | err _ _ _ => simp only [e1] at q; exact q.elim
  | bad => simp only [e1] at q; exact q.elim
  | ok w S1 =>
    obtain ⟨rfl, p1⟩ := rdU_ok R r e1
    simp only [e1] at q
    cases e2 : truW w with
    | none => simp only [e2, ofOpt] at q; exact q.elim
    | some k =>
      simp only [e2, ofOpt] at q
      have hq := q k ρ H .refl R rfl
      cases w <;> simp only [truW, Option.some.injEq, reduceCtorEq] at e2
      · subst e2; simp only [Rep0, Rep] at p1; subst p1; exact ⟨_, rfl, hq⟩
      · subst e2; simp only [Rep0, Rep] at p1; subst p1; exact ⟨_, rfl, hq⟩
      · subst e2; simp only [Rep0, Rep] at p1; subst p1; exact ⟨_, rfl, hq⟩
      · split at e2
        · rename_i hl
          simp only [Option.some.injEq] at e2
          subst e2
          simp only [Rep0, Rep] at p1; subst p1
          exact ⟨_, ⟨Nat.le_trans hl big_line, rfl⟩, hq⟩
        · cases e2
      · subst e2
        obtain ⟨p, vs, rfl, h, t⟩ := rep0_tup p1
        refine ⟨_, .inr (.inl ⟨vs, h, rfl⟩), ?_⟩
        have : vs.isEmpty = (‹List W›).isEmpty := by
          have := t.length
          cases vs <;> cases ‹List W› <;> simp at this ⊢
        rw [this]; exact hq
      · subst e2
        obtain ⟨p, vs, rfl, h, t⟩ := rep0_lst p1
        refine ⟨_, .inl ⟨vs, .inl h, rfl⟩, ?_⟩
        have : vs.isEmpty = (‹List W›).isEmpty := by
          have := t.length
          cases vs <;> cases ‹List W› <;> simp at this ⊢
        rw [this]; exact hq
theorem rd_truth {m : Lo → M U} : ∀ σ H Q, rdT G (fun τ => M.bind (m τ) truU) σ H Q → (rdE G m) σ H fun x H' => ∃ k, TruV G.K x H' k ∧ Q k H' := by
  rintro σ H Q ⟨B, ρ, S, τ, R, L, q⟩
  refine ⟨B, ρ, S, τ, R, L, (FinG.bind (Rp := RpU G) q).imp ?_⟩
  rintro x H1 ⟨ρ1, S1, u, e1, R1, s1, r1, q1⟩
  exact tru_snd R1 r1 q1
/-- a comparison as a test -/
theorem rd_test {m : Lo → M U} {t : TE} (h : ∀ σ H Q, rdE G m σ H Q → t σ H Q) (hb : ∀ τ S u S', m τ S = .ok u S' → ∃ b, u = .p (.bl b)) : ∀ σ H Q, rdT G (fun τ => M.bind (m τ) truU) σ H Q → tTest t σ H Q := by
  rintro σ H Q ⟨B, ρ, S, τ, R, L, q⟩
  refine h _ _ _ ⟨B, ρ, S, τ, R, L, ?_⟩
  have key := FinG.bind (Rp := RpU G) q
  cases e : m τ S with
  | err _ _ _ => rw [e] at key; exact key.elim
  | bad => rw [e] at key; exact key.elim
  | ok u S' =>
    obtain ⟨b, rfl⟩ := hb _ _ _ _ e
    rw [e] at key
    refine key.imp ?_
    rintro x H1 ⟨ρ1, S1, u, e1, R1, s1, r1, q1⟩
    cases e1
    simp only [RpU, RepU, Rep] at r1
    subst r1
    exact ⟨b, rfl, q1 b ρ1 H1 .refl R1 rfl⟩
theorem cmp_bool {p : Pr} {o : CmpOp} (h : copOf p = some o ∨ p = .isn ∨ p = .notn ∨ ∃ b, p = .isb b) {us : List U} {S S' : Sto} {u : U} (e : prE F p us S = .ok u S') : ∃ b, u = .p (.bl b) := by
  have c2 : ∀ {g : W → W → Option W} {us : List U}, (∀ a b w, g a b = some w → ∃ k, w = .bl k) → p2 g us S = .ok u S' → ∃ b, u = .p (.bl b) := by
    intro g us hg e
    match us, e with
    | [], e => cases e
    | [_], e => cases e
    | _ :: _ :: _ :: _, e => cases e
    | [a, b], e =>
      simp only [p2, M.bind] at e
      cases e1 : rdU a S with
      | err _ _ _ => simp only [e1, reduceCtorEq] at e
      | bad => simp only [e1, reduceCtorEq] at e
      | ok x S1 =>
        simp only [e1] at e
        cases e2 : rdU b S1 with
        | err _ _ _ => simp only [e2, reduceCtorEq] at e
        | bad => simp only [e2, reduceCtorEq] at e
        | ok y S2 =>
          simp only [e2] at e
          cases e3 : g x y with
          | none => simp only [e3] at e; cases e
          | some w =>
            simp only [e3] at e
            obtain ⟨k, rfl⟩ := hg _ _ _ e3
            cases e; exact ⟨k, rfl⟩
  have c1 : ∀ {g : W → Option W} {us : List U}, (∀ a w, g a = some w → ∃ k, w = .bl k) → p1 g us S = .ok u S' → ∃ b, u = .p (.bl b) := by
    intro g us hg e
    match us, e with
    | [], e => cases e
    | _ :: _ :: _, e => cases e
    | [a], e =>
      simp only [p1, M.bind] at e
      cases e1 : rdU a S with
      | err _ _ _ => simp only [e1, reduceCtorEq] at e
      | bad => simp only [e1, reduceCtorEq] at e
      | ok x S1 =>
        simp only [e1] at e
        cases e3 : g x with
        | none => simp only [e3] at e; cases e
        | some w =>
          simp only [e3] at e
          obtain ⟨k, rfl⟩ := hg _ _ e3
          cases e; exact ⟨k, rfl⟩
  have cc : ∀ f : Int → Int → Bool, ∀ a b w, cmpW f a b = some w → ∃ k, w = .bl k := by
    intro f a b w h
    unfold cmpW at h
    split at h
    · cases h; exact ⟨_, rfl⟩
    · cases h
  have ceq : ∀ {f : String → List U → M U} {g : Bool → Bool} {a b : U}, (M.bind (rdU a) fun x => M.bind (rdU b) fun y => M.bind (eqM f x y) fun r => okP (.bl (g r))) S = .ok u S' → ∃ b, u = .p (.bl b) := by
    intro f g a b e
    simp only [M.bind] at e
    cases e1 : rdU a S with
    | err _ _ _ => simp only [e1, reduceCtorEq] at e
    | bad => simp only [e1, reduceCtorEq] at e
    | ok x S1 =>
      simp only [e1] at e
      cases e2 : rdU b S1 with
      | err _ _ _ => simp only [e2, reduceCtorEq] at e
      | bad => simp only [e2, reduceCtorEq] at e
      | ok y S2 =>
        simp only [e2] at e
        cases e3 : eqM f x y S2 with
        | err _ _ _ => simp only [e3, reduceCtorEq] at e
        | bad => simp only [e3, reduceCtorEq] at e
        | ok r S3 => simp only [e3] at e; cases e; exact ⟨_, rfl⟩
  rcases h with h | rfl | rfl | ⟨b, rfl⟩
  · cases p <;> simp only [copOf, Option.some.injEq, reduceCtorEq] at h
    · match us, e with
      | [], e => cases e
      | [_], e => cases e
      | _ :: _ :: _ :: _, e => cases e
      | [a, b], e => exact ceq (g := fun b => b) e
    · match us, e with
      | [], e => cases e
      | [_], e => cases e
      | _ :: _ :: _ :: _, e => cases e
      | [a, b], e => exact ceq (g := fun b => !b) e
    · exact c2 (cc _) e
    · exact c2 (cc _) e
    · exact c2 (cc _) e
    · exact c2 (cc _) e
    · exact c2 (fun a b w h => by simp only [oB, Option.map_eq_some_iff] at h; obtain ⟨k, _, rfl⟩ := h; exact ⟨_, rfl⟩) e
    · exact c2 (fun a b w h => by simp only [oB, Option.map_eq_some_iff] at h; obtain ⟨k, _, rfl⟩ := h; exact ⟨_, rfl⟩) e
  · exact c1 (g := fun w => some (.bl (isNon w))) (fun a w h => by cases h; exact ⟨_, rfl⟩) e
  · exact c1 (g := fun w => some (.bl (!isNon w))) (fun a w h => by cases h; exact ⟨_, rfl⟩) e
  · exact c1 (fun a w h => by cases a <;> simp only [Option.some.injEq, reduceCtorEq] at h; exact ⟨_, h.symm⟩) e

/-! ### and, or, if, chains -/
theorem rd_and {a b : Ex} : ∀ σ H Q, rdE G (evE F (.and a b)) σ H Q → tAndV (rdE G (evE F a)) (rdE G (evE F b)) σ H Q := by
  rintro σ H Q ⟨B, ρ, S, τ, R, L, q⟩
  simp only [evE] at q
  refine ⟨B, ρ, S, τ, R, L, (FinG.bind (Rp := RpU G) q).imp ?_⟩
  rintro x H1 ⟨ρ1, S1, u, e1, R1, s1, r1, q1⟩
  split at q1
  · rename_i c
    simp only [RpU, RepU, Rep] at r1
    refine ⟨c, r1, ?_⟩
    cases c with
    | true => exact ⟨B, ρ1, S1, τ, R1, L.stp s1 R, q1⟩
    | false => exact q1.okU R1 (repB _)
  · exact q1.elim
theorem rd_or {a b : Ex} : ∀ σ H Q, rdE G (evE F (.or a b)) σ H Q → tOrV (rdE G (evE F a)) (rdE G (evE F b)) σ H Q := by
  rintro σ H Q ⟨B, ρ, S, τ, R, L, q⟩
  simp only [evE] at q
  refine ⟨B, ρ, S, τ, R, L, (FinG.bind (Rp := RpU G) q).imp ?_⟩
  rintro x H1 ⟨ρ1, S1, u, e1, R1, s1, r1, q1⟩
  split at q1
  · rename_i c
    simp only [RpU, RepU, Rep] at r1
    refine ⟨c, r1, ?_⟩
    cases c with
    | false => exact ⟨B, ρ1, S1, τ, R1, L.stp s1 R, q1⟩
    | true => exact q1.okU R1 (repB _)
  · exact q1.elim
theorem rd_not {a : Ex} : ∀ σ H Q, rdE G (evE F (.not a)) σ H Q → tNotT G.K (rdE G (evE F a)) σ H Q := by
  rintro σ H Q ⟨B, ρ, S, τ, R, L, q⟩
  simp only [evE] at q
  refine ⟨B, ρ, S, τ, R, L, (FinG.bind (Rp := RpU G) q).imp ?_⟩
  rintro x H1 ⟨ρ1, S1, u, e1, R1, s1, r1, q1⟩
  have h := FinG.bind (Rp := RpB) q1
  obtain ⟨k, hk, ρ2, S2, k2, e2, R2, s2, rfl, q2⟩ := tru_snd R1 r1 h
  exact ⟨k2, hk, q2.okU R2 (repB _)⟩
theorem rd_ite {c a b : Ex} : ∀ σ H Q, rdE G (evE F (.ite c a b)) σ H Q → tIf (rdT G (evT F c)) (rdE G (evE F a)) (rdE G (evE F b)) σ H Q := by
  rintro σ H Q ⟨B, ρ, S, τ, R, L, q⟩
  simp only [evE] at q
  refine ⟨B, ρ, S, τ, R, L, (FinG.bind (Rp := RpB) q).imp ?_⟩
  rintro x H1 ⟨ρ1, S1, u, e1, R1, s1, rfl, q1⟩
  cases u with
  | true => exact ⟨B, ρ1, S1, τ, R1, L.stp s1 R, q1⟩
  | false => exact ⟨B, ρ1, S1, τ, R1, L.stp s1 R, q1⟩
theorem rd_chain {p1 q1 : Pr} {a b c : Ex} {r r' : R2} (h1 : Op2 G r fun u v => prE F p1 [u, v]) (h2 : Op2 G r' fun u v => prE F q1 [u, v]) :
    ∀ σ H Q, rdE G (evE F (.chain p1 q1 a b c)) σ H Q → tChain r r' (rdE G (evE F a)) (rdE G (evE F b)) (rdE G (evE F c)) σ H Q := by
  rintro σ H Q ⟨B, ρ, S, τ, R, L, q⟩
  simp only [evE] at q
  refine ⟨B, ρ, S, τ, R, L, (FinG.bind (Rp := RpU G) q).imp ?_⟩
  rintro x H1 ⟨ρ1, S1, u, e1, R1, s1, r1, q1⟩
  refine ⟨B, ρ1, S1, τ, R1, L.stp s1 R, (FinG.bind (Rp := RpU G) q1).imp ?_⟩
  rintro y H2 ⟨ρ2, S2, v, e2, R2, s2, r2, q2⟩
  refine h1 B ρ2 S2 H2 u v x y _ R2 (RepU.stp s2 R1 r1) r2 ((FinG.bind (Rp := RpU G) q2).imp ?_)
  rintro z H3 ⟨ρ3, S3, t, e3, R3, s3, r3, q3⟩
  split at q3
  · rename_i k
    simp only [RpU, RepU, Rep] at r3
    refine ⟨k, r3, ?_⟩
    cases k with
    | true =>
      refine ⟨B, ρ3, S3, τ, R3, (L.stp s1 R).stp (s2.trans s3) R1, (FinG.bind (Rp := RpU G) q3).imp ?_⟩
      rintro z4 H4 ⟨ρ4, S4, w, e4, R4, s4, r4, q4⟩
      exact h2 B ρ4 S4 H4 v w y z4 _ R4 (RepU.stp (s3.trans s4) R2 r2) r4 q4
    | false => exact q3.okU R3 (repB _)
  · exact q3.elim
/-- a op1 b op2 c op3 d -/
def tChain3 (r r' r2 : R2) (ta tb tc td : TE) : TE := fun σ H Q => ta σ H fun x H1 => tb σ H1 fun y H2 => r x y H2 fun z H3 => ∃ k, z = .bl k ∧
  (if k = true then tc σ H3 fun w' H4 => r' y w' H4 fun z2 H5 => ∃ k2, z2 = .bl k2 ∧ (if k2 = true then td σ H5 fun v H6 => r2 w' v H6 Q else Q (.bl false) H5) else Q (.bl false) H3)
section
variable {X : Cx}
theorem pe_chain3 {op op' op2 : CmpOp} {r r' r2 : R2} {a b c d : Expr} {ta tb tc td : TE} {pos : Pos} (ho : OpR X (compareOp op) r) (ho' : OpR X (compareOp op') r') (ho2 : OpR X (compareOp op2) r2) (ha : PE X a ta) (hb : PE X b tb) (hc : PE X c tc) (hd : PE X d td)
    (hm : lastMarks [op, op', op2] [b, c, d] = false) : PE X (.Compare a [op, op', op2] [b, c, d] pos) (tChain3 r r' r2 ta tb tc td) := by
  refine ⟨fun pins s σ H Q I h => ?_⟩
  refine Compare_chain (thn (ha.run pins s σ H _ I h) fun v s1 ⟨x, H1, I1, r1, q1⟩ => chain_link (thn (hb.run pins s1 σ H1 _ I1 q1) fun u s2 ⟨y, H2, I2, r2', q2⟩ =>
    thn (ho pins s2 σ H2 x y v u _ I2 r1 r2' q2) fun d1 s3 ⟨z, H3, I3, r3, k, e, q3⟩ => ?_)) hm
  subst e
  cases r3
  refine wpAny_truthy_bool ?_
  cases k with
  | false => exact ite_ff ⟨.bl false, H3, I3, rfl, q3⟩
  | true =>
    refine ite_tt (chain_link (thn (hc.run pins s3 σ H3 _ I3 q3) fun w' s4 ⟨z', H4, I4, r4, q4⟩ => thn (ho' pins s4 σ H4 y z' u w' _ I4 r2' r4 q4) fun d2 s5 ⟨z2, H5, I5, r5, k2, e2, q5⟩ => ?_))
    subst e2
    cases r5
    refine wpAny_truthy_bool ?_
    cases k2 with
    | false => exact ite_ff ⟨.bl false, H5, I5, rfl, q5⟩
    | true => exact ite_tt (chain_last (thn (hd.run pins s5 σ H5 _ I5 q5) fun v' s6 ⟨z6, H6, I6, r6, q6⟩ => ho2 pins s6 σ H6 z' z6 w' v' Q I6 r4 r6 q6))
theorem pt_chain3 {op op' op2 : CmpOp} {r r' r2 : R2} {a b c d : Expr} {ta tb tc td : TE} {pos : Pos} (ho : OpR X (compareOp op) r) (ho' : OpR X (compareOp op') r') (ho2 : OpR X (compareOp op2) r2) (ha : PE X a ta) (hb : PE X b tb) (hc : PE X c tc) (hd : PE X d td)
    (hm : lastMarks [op, op', op2] [b, c, d] = false) : PT X (.Compare a [op, op', op2] [b, c, d] pos) (tTest (tChain3 r r' r2 ta tb tc td)) := by
  refine ⟨fun pins s σ H Q I h => ?_⟩
  refine isTrue_chain (thn (ha.run pins s σ H _ I h) fun v s1 ⟨x, H1, I1, r1, q1⟩ => test_link (thn (hb.run pins s1 σ H1 _ I1 q1) fun u s2 ⟨y, H2, I2, r2', q2⟩ =>
    thn (ho pins s2 σ H2 x y v u _ I2 r1 r2' q2) fun d1 s3 ⟨z, H3, I3, r3, k, e, q3⟩ => ?_)) hm
  subst e
  cases r3
  refine wpAny_truthy_bool ?_
  cases k with
  | false =>
    obtain ⟨k', e', q'⟩ := q3
    cases e'
    exact ite_ff ⟨H3, I3, q'⟩
  | true =>
    refine ite_tt (test_link (thn (hc.run pins s3 σ H3 _ I3 q3) fun w' s4 ⟨z', H4, I4, r4, q4⟩ => thn (ho' pins s4 σ H4 y z' u w' _ I4 r2' r4 q4) fun d2 s5 ⟨z2, H5, I5, r5, k2, e2, q5⟩ => ?_))
    subst e2
    cases r5
    refine wpAny_truthy_bool ?_
    cases k2 with
    | false =>
      obtain ⟨k', e', q'⟩ := q5
      cases e'
      exact ite_ff ⟨H5, I5, q'⟩
    | true =>
      refine ite_tt (test_last (thn (hd.run pins s5 σ H5 _ I5 q5) fun v' s6 ⟨z6, H6, I6, r6, q6⟩ => thn (ho2 pins s6 σ H6 z' z6 w' v' _ I6 r4 r6 q6) fun d3 s7 ⟨z7, H7, I7, r7, k3, e3, q7⟩ => ?_))
      subst e3
      cases r7
      exact wpAny_truthy_bool ⟨H7, I7, q7⟩
end
theorem rd_chain3 {p1 q1 s1' : Pr} {a b c d : Ex} {r r' r2 : R2} (h1 : Op2 G r fun u v => prE F p1 [u, v]) (h2 : Op2 G r' fun u v => prE F q1 [u, v]) (h3 : Op2 G r2 fun u v => prE F s1' [u, v]) :
    ∀ σ H Q, rdE G (evE F (.chain3 p1 q1 s1' a b c d)) σ H Q → tChain3 r r' r2 (rdE G (evE F a)) (rdE G (evE F b)) (rdE G (evE F c)) (rdE G (evE F d)) σ H Q := by
  rintro σ H Q ⟨B, ρ, S, τ, R, L, q⟩
  simp only [evE] at q
  refine ⟨B, ρ, S, τ, R, L, (FinG.bind (Rp := RpU G) q).imp ?_⟩
  rintro x H1 ⟨ρ1, S1, u, e1, R1, s1, r1, q1⟩
  refine ⟨B, ρ1, S1, τ, R1, L.stp s1 R, (FinG.bind (Rp := RpU G) q1).imp ?_⟩
  rintro y H2 ⟨ρ2, S2, v, e2, R2, s2, r2, q2⟩
  refine h1 B ρ2 S2 H2 u v x y _ R2 (RepU.stp s2 R1 r1) r2 ((FinG.bind (Rp := RpU G) q2).imp ?_)
  rintro z H3 ⟨ρ3, S3, t, e3, R3, s3, r3, q3⟩
  split at q3
  · rename_i k
    simp only [RpU, RepU, Rep] at r3
    refine ⟨k, r3, ?_⟩
    cases k with
    | true =>
      have L3 := (L.stp s1 R).stp (s2.trans s3) R1
      refine ⟨B, ρ3, S3, τ, R3, L3, (FinG.bind (Rp := RpU G) q3).imp ?_⟩
      rintro z4 H4 ⟨ρ4, S4, w, e4, R4, s4, r4, q4⟩
      refine h2 B ρ4 S4 H4 v w y z4 _ R4 (RepU.stp (s3.trans s4) R2 r2) r4 ((FinG.bind (Rp := RpU G) q4).imp ?_)
      rintro z5 H5 ⟨ρ5, S5, t5, e5, R5, s5, r5, q5⟩
      split at q5
      · rename_i k2
        simp only [RpU, RepU, Rep] at r5
        refine ⟨k2, r5, ?_⟩
        cases k2 with
        | true =>
          refine ⟨B, ρ5, S5, τ, R5, L3.stp (s4.trans s5) R3, (FinG.bind (Rp := RpU G) q5).imp ?_⟩
          rintro z6 H6 ⟨ρ6, S6, w6, e6, R6, s6, r6, q6⟩
          exact h3 B ρ6 S6 H6 w w6 z4 z6 _ R6 (RepU.stp (s5.trans s6) R4 r4) r6 q6
        | false => exact q5.okU R5 (repB _)
      · exact q5.elim
    | false => exact q3.okU R3 (repB _)
  · exact q3.elim
theorem marks3 {o1 o2 o3 : CmpOp} {y z v : Expr} (h : isSetE v = false) : lastMarks [o1, o2, o3] [y, z, v] = false := by
  show behindInMarks o3 v = false
  exact marks_of h
theorem marks2 {o1 o2 : CmpOp} {y z : Expr} (h : isSetE z = false) : lastMarks [o1, o2] [y, z] = false := by
  show behindInMarks o2 z = false
  exact marks_of h

/-! ### calls -/
theorem evEs_app : ∀ {as bs : List Ex} {τ : Lo}, evEs F (as ++ bs) τ = M.bind (evEs F as τ) fun us => M.bind (evEs F bs τ) fun vs => fun S => .ok (us ++ vs) S
  | [], bs, τ => by
    funext S
    simp only [List.nil_append, evEs, M.bind]
    cases evEs F bs τ S <;> rfl
  | a :: as, bs, τ => by
    funext S
    simp only [List.cons_append, evEs, evEs_app (as := as), M.bind]
    cases evE F a τ S with
    | ok u S1 =>
      simp only
      cases evEs F as τ S1 with
      | ok us S2 =>
        simp only
        cases evEs F bs τ S2 <;> rfl
      | err _ _ _ => rfl
      | bad => rfl
    | err _ _ _ => rfl
    | bad => rfl
section
variable {k n : Nat} {f C : Addr} {fd : FuncData} {ps ks : List Str} {sp : Sp} {E : XK} {x m : Str} {p pos apos : Pos} {args : List Expr} {kws : List Keyword} {t tk : TA} {g : List Value → List Value → List Value} {gV : List V → List V → List V} {o : Expr} {to : TE}
theorem pe_callG (gd : X.A.guards = some []) (Fk : FnG X.prog X.w X.K X.mg X.base k f fd ps sp) (hr : Room k X.A) (hg : Gl X x) (hm : X.mg x = some (.ref f)) (hk : PySem.W.keepIn X.K (.ref f) = true) (hb : KBn X.K fd ps n ks g gV)
    (ha : PA X args t) (h0 : args = [] → ∀ σ H Q, t σ H Q → Q [] H) (hkw : PK X kws tk) (hs : args.all (fun e => !isStar e) = true) (hka : kws.all (fun k => k.arg.isSome) = true) (hks : kws.filterMap (·.arg) = ks) (hdb : (x == ("__debug__" : Str)) = false) :
    PE X (.Call (.Name x p) args kws pos) (tCallN n ks.length sp gV E0 t tk) := by
  obtain ⟨k1, k2, k3⟩ := kw_names (env := X.env) (pos := pos) hka
  cases args with
  | nil =>
    refine ⟨fun pins s σ H Q I h => ?_⟩
    refine wpAny_Call_Name_kw (ld_glob I hg hm ?_ hdb)
    refine PySem.W.callWith_KW0 (h₀ := X.base) I.ok.mod.kin hk k1 ?_ (by rw [k3]; rfl)
    refine thn (hkw.run pos pins s σ H _ I (h0 rfl _ _ _ h)) fun ws s2 ⟨zs, H2, I2, rz, l1, l2, q2⟩ => ⟨I2.kIn, ?_⟩
    rw [k2, hks]
    exact run_fnG (us := []) (vs := []) gd Fk hr hb I2 .nil rz l1 l2 q2
  | cons e es =>
    simp only [List.all_cons, Bool.and_eq_true, Bool.not_eq_true'] at hs
    refine ⟨fun pins s σ H Q I h => ?_⟩
    refine wpAny_Call_Name_kw (ld_glob I hg hm ?_ hdb)
    refine PySem.W.callWith_KW (h₀ := X.base) I.ok.mod.kin hk k1 (thn (ha.run pos pins s σ H _ I h) fun us s2 ⟨vs, H2, I2, r, q2⟩ => ?_) (by rw [star_any (by simp only [List.all_cons, hs.1, hs.2]; rfl), k3]; rfl) (star_cons hs.1)
    refine thn (hkw.run pos pins s2 σ H2 _ I2 q2) fun ws s3 ⟨zs, H3, I3, rz, l1, l2, q3⟩ => ⟨I3.kIn, ?_⟩
    rw [k2, hks]
    exact run_fnG gd Fk hr hb I3 r rz l1 l2 q3
theorem star_none {env : Env} : ∀ {es : List Expr}, es.all (fun e => !isStar e) = true → (backTo pos (starEach es env)).all (fun x => !x.1) = true
  | [], _ => rfl
  | e :: es, h => by
    simp only [List.all_cons, Bool.and_eq_true, Bool.not_eq_true'] at h
    rw [star_cons h.1]
    show (true && (backTo pos (starEach es env)).all (fun x => !x.1)) = true
    rw [star_none h.2]
    rfl
theorem methodCall_few {env : Env} {ov : Value} {nn : Nat} {as : List (Bool × Sem Value)} {ks : List (Option Str × Sem Value)} (hf : methodCallForm nn as ks = true) (hl : (apos.endLine == pos.line) = true) :
    methodCall o m apos pos env ov nn as ks = (do
      let (f, first) ← holding [ov] (getMethod ov m (do return (← importBound o env).getD true))
      callWith pos f first as ks) := by
  unfold methodCall methodCallPos calleeOf
  rw [hf, hl]
  rfl
/-- o.m(..), with keywords -/
def tMethN (C : Addr) (m : Str) (n l : Nat) (sp : Sp) (gV : List V → List V → List V) (E : XK) (to : TE) (t tk : TA) : TE := fun σ H Q => to σ H fun x H1 => ∃ a dx fs, x = .ref a ∧ H1 a = some (.ins C dx fs) ∧ fs.lookup m = none ∧
  t σ H1 fun vs H2 => tk σ H2 fun zs H3 => (x :: vs).length = n ∧ zs.length = l ∧ sp (gV (x :: vs) zs) H3 Q E
theorem pe_methG (ho : PE X o to) (c : Cls X.K C) (hme : Meth X.K C m f) (gd : X.A.guards = some []) (Fk : FnG X.prog X.w X.K X.mg X.base k f fd ps sp) (hr : Room k X.A) (hb : KBn X.K fd ps n ks g gV)
    (ha : PA X args t) (h0 : args = [] → ∀ σ H Q, t σ H Q → Q [] H) (hkw : PK X kws tk) (hs : args.all (fun e => !isStar e) = true) (hka : kws.all (fun k => k.arg.isSome) = true) (hks : kws.filterMap (·.arg) = ks) (hsup : notSuper o = true) (hline : (apos.endLine == pos.line) = true) (hlen : args.length + kws.length < 25) :
    PE X (.Call (.Attribute o m apos) args kws pos) (tMethN C m n ks.length sp gV E0 to t tk) := by
  obtain ⟨k1, k2, k3⟩ := kw_names (env := X.env) (pos := pos) hka
  refine ⟨fun pins s σ H Q I h => ?_⟩
  refine PySem.W.methodCall_KW (pl := (do return (← importBound o X.env).getD true)) (thn (ho.run pins s σ H _ I h) fun u s1 ⟨x, H1, I1, rx, a, dx, fs, ex, ea, l, q⟩ => ?_) (by
    have hf : methodCallForm (args.length + kws.length) (backTo pos (starEach args X.env)) (backToKw pos (keywordEach kws X.env)) = true := by
      unfold methodCallForm
      rw [star_none hs, k1]
      simp only [Bool.and_self, Bool.true_and, decide_eq_true_eq]
      split <;> omega
    rw [eval, base_ok hsup]
    simp only [methodCall_few hf hline])
  subst ex
  obtain rfl : u = Value.ref a := rx
  refine getmeth_ok I1 ea c hme l ?_
  cases args with
  | nil =>
    refine PySem.W.callWith_KW0 (first := [.ref a]) (h₀ := X.base) I.ok.mod.kin hme.kp k1 ?_ (by rw [k3]; rfl)
    refine thn (hkw.run pos pins s1 σ H1 _ I1 (h0 rfl _ _ _ q)) fun ws s2 ⟨zs, H2, I2, rz, l1, l2, q2⟩ => ⟨I2.kIn, ?_⟩
    rw [k2, hks]
    exact run_fnG (us := [.ref a]) (vs := [.ref a]) gd Fk hr hb I2 (.cons rfl .nil) rz l1 l2 q2
  | cons e es =>
    simp only [List.all_cons, Bool.and_eq_true, Bool.not_eq_true'] at hs
    refine PySem.W.callWith_KW (first := [.ref a]) (h₀ := X.base) I.ok.mod.kin hme.kp k1 (thn (ha.run pos pins s1 σ H1 _ I1 q) fun us s2 ⟨vs, H2, I2, r, q2⟩ => ?_) (by rw [star_any (by simp only [List.all_cons, hs.1, hs.2]; rfl), k3]; rfl) (star_cons hs.1)
    refine thn (hkw.run pos pins s2 σ H2 _ I2 q2) fun ws s3 ⟨zs, H3, I3, rz, l1, l2, q3⟩ => ⟨I3.kIn, ?_⟩
    rw [k2, hks]
    exact run_fnG (us := .ref a :: us) (vs := .ref a :: vs) gd Fk hr hb I3 (.cons rfl r) rz l1 l2 q3
theorem pe_makeG {Ca : Addr} (Mo : Mk X.K Ca f) (gd : X.A.guards = some []) (Fk : FnG X.prog X.w X.K X.mg X.base k f fd ps sp) (hr : Room (k + 1) X.A) (hg : Gl X x) (hm : X.mg x = some (.ref Ca)) (hb : KBn X.K fd ps (n + 1) ks g gV)
    (ha : PA X args t) (h0 : args = [] → n = 0 ∧ ∀ σ H Q, t σ H Q → Q [] H) (hkw : PK X kws tk) (hs : args.all (fun e => !isStar e) = true) (hka : kws.all (fun k => k.arg.isSome) = true) (hks : kws.filterMap (·.arg) = ks) (hdb : (x == ("__debug__" : Str)) = false) :
    PE X (.Call (.Name x p) args kws pos) (tMakeK Ca n ks.length sp gV E0 t tk) := by
  obtain ⟨k1, k2, k3⟩ := kw_names (env := X.env) (pos := pos) hka
  cases args with
  | nil =>
    obtain ⟨rfl, h1⟩ := h0 rfl
    refine ⟨fun pins s σ H Q I h => ?_⟩
    refine wpAny_Call_Name_kw (ld_glob I hg hm ?_ hdb)
    refine PySem.W.callWith_KW0 (h₀ := X.base) I.ok.mod.kin Mo.kp k1 ?_ (by rw [k3]; rfl)
    refine thn (hkw.run pos pins s σ H _ I (h1 _ _ _ h)) fun ws s2 ⟨zs, H2, I2, rz, l1, l2, q2⟩ => ⟨I2.kIn, ?_⟩
    rw [k2, hks]
    exact run_makeG (us := []) (vs := []) gd Mo Fk hr hb I2 .nil rz l1 l2 q2
  | cons e es =>
    simp only [List.all_cons, Bool.and_eq_true, Bool.not_eq_true'] at hs
    refine ⟨fun pins s σ H Q I h => ?_⟩
    refine wpAny_Call_Name_kw (ld_glob I hg hm ?_ hdb)
    refine PySem.W.callWith_KW (h₀ := X.base) I.ok.mod.kin Mo.kp k1 (thn (ha.run pos pins s σ H _ I h) fun us s2 ⟨vs, H2, I2, r, q2⟩ => ?_) (by rw [star_any (by simp only [List.all_cons, hs.1, hs.2]; rfl), k3]; rfl) (star_cons hs.1)
    refine thn (hkw.run pos pins s2 σ H2 _ I2 q2) fun ws s3 ⟨zs, H3, I3, rz, l1, l2, q3⟩ => ⟨I3.kIn, ?_⟩
    rw [k2, hks]
    exact run_makeG gd Mo Fk hr hb I3 r rz l1 l2 q3
end
end
end Pm
end
section
set_option Elab.async false
set_option linter.all false
set_option maxRecDepth 100000
set_option maxHeartbeats 2000000
/-! Pm10e: enumerate over a tuple, a list, a text. -/
namespace EnM
open PySem
open AutoSeq1 (wpAny_loadPart')
theorem enumT_new (l : Addr) (items : Array Value) (n : Nat) (dct : Option Addr) (sl : Array (Option Value)) :
    Meets (Builtin.«enumerate.__new__» ⟨[.type "enumerate", .ref l], []⟩) (fun _ R s => s.heap.get? l = some { cls := .type "tuple", dict := dct, data := .seq items n, slots := sl } ∧
      R (.ok (.ret (.ref (s.heap.push { cls := .type "tuple_iterator", data := .fields #[.ref l, .int 0 0] }).objs.size)))
        { s with heap := (s.heap.push { cls := .type "tuple_iterator", data := .fields #[.ref l, .int 0 0] }).push { cls := .type "enumerate", data := .fields #[.none, .bool false, .ref s.heap.objs.size, rawInt 0, .none, .none] } }) := by
  refine .of_wp fun prog w A R s h => ?_
  obtain ⟨hp, g, d, tk, os⟩ := s
  obtain ⟨hl, h⟩ := h
  have hsub := sub_enumerate
  have hT : Heap.IsTuple (Shared.heap ⟨hp, g, d, tk, os⟩) l items := ⟨_, hl, rfl, n, rfl⟩
  wp_walk using wpAny_loadPart' hl
  refine wpAny_stack_any fun st => wpAny_pure ?_
  split
  · rename_i c _ _ _ _ _
    cases (c == Value.type "enumerate")
    · wp_walk using wpAny_loadPart' hl, wpAny_pyIter_tuple hT
      exact ⟨_, rfl, h⟩
    · wp_walk using wpAny_loadPart' hl, wpAny_pyIter_tuple hT
      exact ⟨_, rfl, h⟩
  · wp_walk using wpAny_loadPart' hl, wpAny_pyIter_tuple hT
    exact ⟨_, rfl, h⟩
section
variable {prog : Program} {w : World} {A : Around} {E : Value → Shared → Prop} {s : Shared}
theorem call_enumT {l : Addr} {items : Array Value} {Q : Value → Shared → Prop} (hL : s.heap.IsTuple l items)
    (h : ∀ h', IsEnum h' (s.heap.objs.size + 1) s.heap.objs.size 0 .none → h'.IsTupleIter s.heap.objs.size l 0 → h'.objs.size = s.heap.objs.size + 2 → (∀ b o, s.heap.get? b = some o → h'.get? b = some o) → Q (.ref (s.heap.objs.size + 1)) { s with heap := h' }) :
    wpAny (model prog w) A (call (.type "enumerate") [.ref l]) Q E s := by
  obtain ⟨⟨c, dct, dt, sl⟩, hl, hc, n, hd⟩ := hL
  obtain rfl : c = .type "tuple" := hc
  obtain rfl : dt = .seq items n := hd
  have hz : (s.heap.push { cls := .type "tuple_iterator", data := .fields #[.ref l, .int 0 0] }).objs.size = s.heap.objs.size + 1 := Heap.size_push ..
  have at1 := Heap.get?_push_size (s.heap.push { cls := .type "tuple_iterator", data := .fields #[.ref l, .int 0 0] }) (o := { cls := .type "enumerate", data := .fields #[.none, .bool false, .ref s.heap.objs.size, rawInt 0, .none, .none] }) rfl
  rw [hz] at at1
  refine callType_new F.called_enumerate (by decide) (F.typeCall_enumerate_1 _) (F.newCall_enumerate_1 _) (fun obj => F.args_object_init_2 obj _) F.entry_enumerate_new (enumT_new l items n dct sl) ⟨hl, ?_⟩
  show _ ∧ _
  rw [hz]
  exact ⟨⟨_, at1, rfl⟩, h _ at1 ⟨_, Heap.get?_push_of_some _ (Heap.get?_push_size _ rfl), rfl, rfl⟩ (by rw [Heap.size_push, hz]) fun b o x => Heap.get?_push_of_some _ (Heap.get?_push_of_some _ x)⟩
end
theorem drawsT {prog : Program} {w : World} {A : Around} (hh : A.handled = none) (it l : Addr) (hne : l ≠ it) (items : Array Value) :
    Draws prog w A it [it, l] items.size (fun i v => items[i]? = some v) (fun i h => h.IsTupleIter it l i ∧ h.IsTuple l items) where
  live := fun _ _ st => by obtain ⟨⟨o, ho, _⟩, _⟩ := st; exact ⟨o, ho⟩
  frame := fun i h h' st hk => by
    obtain ⟨⟨o, ho, r⟩, o2, ho2, r2⟩ := st
    exact ⟨⟨o, hk it (by simp) o ho, r⟩, o2, hk l (by simp) o2 ho2, r2⟩
  item := fun i s Q E hi st hQ => by
    have hx : items[i]? = some items[i] := by simp [hi]
    refine RZ.nextOf_tuple_item st.1 st.2 hx fun h' hit' hs' => ?_
    exact hQ _ h' s.toks hx ⟨hit', st.2.extBut hs'.extBut hne⟩ hs'
  done := fun s Q E st hE => RZ.nextOf_tuple_end hh st.1 st.2 (by simp) hE
end EnM
namespace Pm
open PySem PySem.Spec PyProof.Rows L2
/-- the pairs of a place and an item: what is there -/
def ItE (go yl : Nat → Hp → V → Prop) (stop : Nat → Hp → Prop) : It :=
  ⟨fun i H => ∃ x, go i H x, fun i H v H' => ∃ T x, v = .ref T ∧ H T = none ∧ H' = upd H T (.tup [.int (i : Nat), x]) ∧ yl i H x, stop⟩
abbrev IteT (K : PySem.W.Frag) (a : Addr) : It := ItE (fun i H x => ∃ xs, SqT K H a xs ∧ xs[i]? = some x) (fun i H x => ∀ xs, SqT K H a xs → xs[i]? = some x) fun i H => ∃ xs, SqT K H a xs ∧ xs.length ≤ i
abbrev IteS (z : Str) : It := ItE (fun i H x => ∃ c, z.cps[i]? = some c ∧ x = .str ⟨#[c]⟩) (fun i H x => ∃ c, z.cps[i]? = some c ∧ x = .str ⟨#[c]⟩) fun i H => z.cps.size ≤ i
section
variable {P : Program} {w : World} {K : PySem.W.Frag} {elts : List Expr} {kk : Nat} {tpos : Pos}
theorem turn_enumT (a e it : Addr) :
    Turn P w K (.Tuple elts kk tpos) (IteT K a) [e, it] e (fun i h => (∃ old, IsEnum h e it ((i : Nat) : Int) old) ∧ h.IsTupleIter it a i ∧ e ≠ it) where
  mem := by simp
  obj := fun i h st b hb => by
    obtain ⟨⟨old, he⟩, ⟨o, ho, hc, hd⟩, _⟩ := st
    simp only [List.mem_cons, List.not_mem_nil, or_false] at hb
    rcases hb with rfl | rfl
    · exact ⟨_, he, fun v q => nomatch q⟩
    · exact ⟨o, ho, fun v q => by rw [hd] at q; cases q⟩
  keep := fun i h h' st k => by
    obtain ⟨⟨old, he⟩, ⟨o, ho, r⟩, hne⟩ := st
    exact ⟨⟨old, k e (by simp) _ he⟩, ⟨o, k it (by simp) o ho, r⟩, hne⟩
  item := by
    intro X hP hw hK hc i pins s σ H E I hf st hg
    subst hP hw hK
    obtain ⟨⟨old, he⟩, hit, hne⟩ := st
    obtain ⟨x, xs, hq, hx⟩ := hg
    obtain ⟨its, rv, p, hz⟩ := I.tuple hq
    obtain ⟨u, hu, ru⟩ := rv.get hx
    have p' : s.heap.IsTuple a its.toArray := p
    have hel : e < s.heap.objs.size := Heap.lt_size he
    have hil : it < s.heap.objs.size := by obtain ⟨_, q, _⟩ := hit; exact Heap.lt_size q
    have hia : a ≠ it := by
      rintro rfl
      obtain ⟨o1, q1, c1, _⟩ := hit
      obtain ⟨o2, q2, c2, _⟩ := p'
      rw [q1] at q2; cases q2; rw [c1] at c2; simp at c2
    have hea : e ∉ [it, a] := by
      simp only [List.mem_cons, List.not_mem_nil, or_false, not_or]
      refine ⟨hne, ?_⟩
      rintro rfl
      obtain ⟨o2, q2, c2, _⟩ := p'
      rw [he] at q2; cases q2; simp at c2
    have hlt : i < its.toArray.size := by
      have := (List.getElem?_eq_some_iff.mp hu).1
      simpa using this
    refine wpAny_pyNext_enum_itemD (EnM.drawsT (A := X.A.in1) (I.ok.hd hc) it a hia its.toArray) he ⟨hit, p'⟩ hlt hne hea fun v h' tk hv ho st' hT hsz hk => ?_
    have ev : v = u := by
      have : its.toArray[i]? = some u := by simpa using hu
      rw [this] at hv; cases hv; rfl
    subst ev
    refine ⟨_, rfl, wpAny_letOwnedTupleGo_enum (s := { s with heap := h', toks := tk + 1 }) ho fun h'' he' sb => ?_⟩
    have hT2 : h''.get? s.heap.objs.size = some { cls := .type "tuple", data := .seq #[.int i tk, v] } := (sb.2 _ (Nat.ne_of_gt hel)).trans hT
    have new : ObjOk X.prog X.w (upd H s.heap.objs.size (.tup [.int (i : Nat), x])) h'' s.heap.objs.size (.tup [.int (i : Nat), x]) := by
      refine ⟨?_, [.int i tk, v], .cons ⟨_, rfl⟩ (.cons ru .nil), ⟨_, hT2, rfl, _, rfl⟩⟩
      show 2 ≤ sizeLine
      decide
    have I1 : Inv X pins σ (upd H s.heap.objs.size (.tup [.int (i : Nat), x])) { s with heap := h'', toks := tk + 1 } :=
      I.turnedNew (ch := [e, it]) (fun b ob hb q => (sb.2 b (fun z => hb (by simp [z]))).trans (hk b ob (fun z => hb (by simp [z])) (fun z => hb (by simp [z])) q)) hf (Nat.le_refl _) new
    refine ⟨.ref s.heap.objs.size, _, I1, rfl, ⟨_, x, rfl, I.hok.fresh (Nat.le_refl _), rfl, fun ys hy => by rw [I.tuple_inj hy hq]; exact hx⟩, ⟨⟨v, ?_⟩, ?_, hne⟩, fun b hb => ?_⟩
    · rw [show ((i + 1 : Nat) : Int) = (i : Int) + 1 by omega]
      exact he'
    · obtain ⟨⟨o, ho2, r⟩, _⟩ := st'
      exact ⟨o, (sb.2 it (Ne.symm hne)).trans ho2, r⟩
    · have hb' : b < s.heap.objs.size := by
        simp only [List.mem_cons, List.not_mem_nil, or_false] at hb
        rcases hb with rfl | rfl <;> assumption
      rw [upd_ne (Nat.ne_of_lt hb')]
      exact (hf b hb).1
  done := by
    intro X hP hw hK hc i pins s σ H E I hf st hg
    subst hP hw hK
    obtain ⟨⟨old, he⟩, hit, hne⟩ := st
    obtain ⟨xs, hq, hx⟩ := hg
    obtain ⟨its, rv, p, hz⟩ := I.tuple hq
    have p' : s.heap.IsTuple a its.toArray := p
    have hia : a ≠ it := by
      rintro rfl
      obtain ⟨o1, q1, c1, _⟩ := hit
      obtain ⟨o2, q2, c2, _⟩ := p'
      rw [q1] at q2; cases q2; rw [c1] at c2; simp at c2
    obtain ⟨f0, f1, f2, f3, f4, f5⟩ := hf it (by simp)
    unfold pyNext
    have hT : s.TypeIs (.ref e) "enumerate" := ⟨_, he, rfl⟩
    refine wpAny_bind (wpAny_attempt (wpAny_callSpecial?_slot (name := Str.ofString "__next__") hT F.slot_enumerate_next (wpAny_call_entry F.slot_enumerate_next hT F.entry_enumerate_next ?_ (F.args_enumerate_next_1 _))))
    show wpAny _ _ (field (.ref e) 2 >>= _) _ _ _
    refine wpAny_bind (wpAny_field he rfl (x := .ref it) rfl ?_)
    refine wpAny_bind (RZ.nextOf_tuple_end (I.ok.hd hc) hit p' (by
      have := rv.length
      simp
      omega) fun h' x he' hx' => ?_)
    obtain ⟨o, ho, hc'⟩ := hx'
    refine wpAny_bind (wpAny_isInstance (T := "StopIteration") (b := true) ⟨o, ho, hc'⟩ isSubtype_stop ?_)
    exact wpAny_pure ⟨rfl, I.turned (t' := s.toks) (fun b o hb q => he' b o hb q) f0 f1 f3 f4 f5⟩
  self := fun A i s Q E st h => by
    obtain ⟨⟨_, he⟩, _⟩ := st
    exact wpAny_pyIter_enum he h
theorem drawsS {prog : Program} {w : World} {A : Around} (hh : A.handled = none) (it : Addr) (z : Str) (t : Tok) :
    Draws prog w A it [it] z.cps.size (fun i v => ∃ c u, z.cps[i]? = some c ∧ v = .str ⟨#[c]⟩ u) (fun i h => h.IsStrIter it (strIterType z) z t i) := by
  cases ha : z.cps.all (· < 128)
  · have e : strIterType z = "str_iterator" := by simp [strIterType, ha]
    rw [e]
    exact Draws.strWide hh it z t
  · have e : strIterType z = "str_ascii_iterator" := by simp [strIterType, ha]
    rw [e]
    exact Draws.strAscii hh it z t
theorem turn_enumS (z : Str) (t : Tok) (e it : Addr) :
    Turn P w K (.Tuple elts kk tpos) (IteS z) [e, it] e (fun i h => (∃ old, IsEnum h e it ((i : Nat) : Int) old) ∧ h.IsStrIter it (strIterType z) z t i ∧ e ≠ it) where
  mem := by simp
  obj := fun i h st b hb => by
    obtain ⟨⟨old, he⟩, ⟨o, ho, hc, hd⟩, _⟩ := st
    simp only [List.mem_cons, List.not_mem_nil, or_false] at hb
    rcases hb with rfl | rfl
    · exact ⟨_, he, fun v q => nomatch q⟩
    · exact ⟨o, ho, fun v q => by rw [hd] at q; cases q⟩
  keep := fun i h h' st k => by
    obtain ⟨⟨old, he⟩, ⟨o, ho, r⟩, hne⟩ := st
    exact ⟨⟨old, k e (by simp) _ he⟩, ⟨o, k it (by simp) o ho, r⟩, hne⟩
  item := by
    intro X hP hw hK hc i pins s σ H E I hf st hg
    subst hP hw hK
    obtain ⟨⟨old, he⟩, hit, hne⟩ := st
    obtain ⟨x, c, hx, rfl⟩ := hg
    have hel : e < s.heap.objs.size := Heap.lt_size he
    have hil : it < s.heap.objs.size := by obtain ⟨_, q, _⟩ := hit; exact Heap.lt_size q
    have hlt : i < z.cps.size := (Array.getElem?_eq_some_iff.mp hx).1
    refine wpAny_pyNext_enum_itemD (drawsS (A := X.A.in1) (I.ok.hd hc) it z t) he hit hlt hne (by simpa using hne) fun v h' tk hv ho st' hT hsz hk => ?_
    obtain ⟨c', u, hc', rfl⟩ := hv
    rw [hx] at hc'
    cases hc'
    refine ⟨_, rfl, wpAny_letOwnedTupleGo_enum (s := { s with heap := h', toks := tk + 1 }) ho fun h'' he' sb => ?_⟩
    have hT2 : h''.get? s.heap.objs.size = some { cls := .type "tuple", data := .seq #[.int i tk, .str ⟨#[c]⟩ u] } := (sb.2 _ (Nat.ne_of_gt hel)).trans hT
    have new : ObjOk X.prog X.w (upd H s.heap.objs.size (.tup [.int (i : Nat), .str ⟨#[c]⟩])) h'' s.heap.objs.size (.tup [.int (i : Nat), .str ⟨#[c]⟩]) := by
      refine ⟨?_, [.int i tk, .str ⟨#[c]⟩ u], .cons ⟨_, rfl⟩ (.cons ⟨_, rfl⟩ .nil), ⟨_, hT2, rfl, _, rfl⟩⟩
      show 2 ≤ sizeLine
      decide
    have I1 : Inv X pins σ (upd H s.heap.objs.size (.tup [.int (i : Nat), .str ⟨#[c]⟩])) { s with heap := h'', toks := tk + 1 } :=
      I.turnedNew (ch := [e, it]) (fun b ob hb q => (sb.2 b (fun z => hb (by simp [z]))).trans (hk b ob (fun z => hb (by simp [z])) (fun z => hb (by simp [z])) q)) hf (Nat.le_refl _) new
    refine ⟨.ref s.heap.objs.size, _, I1, rfl, ⟨_, _, rfl, I.hok.fresh (Nat.le_refl _), rfl, c, hx, rfl⟩, ⟨⟨.str ⟨#[c]⟩ u, ?_⟩, ?_, hne⟩, fun b hb => ?_⟩
    · rw [show ((i + 1 : Nat) : Int) = (i : Int) + 1 by omega]
      exact he'
    · obtain ⟨o, ho2, r⟩ := st'
      exact ⟨o, (sb.2 it (Ne.symm hne)).trans ho2, r⟩
    · have hb' : b < s.heap.objs.size := by
        simp only [List.mem_cons, List.not_mem_nil, or_false] at hb
        rcases hb with rfl | rfl <;> assumption
      rw [upd_ne (Nat.ne_of_lt hb')]
      exact (hf b hb).1
  done := by
    intro X hP hw hK hc i pins s σ H E I hf st hg
    subst hP hw hK
    obtain ⟨⟨old, he⟩, hit, hne⟩ := st
    obtain ⟨f0, f1, f2, f3, f4, f5⟩ := hf it (by simp)
    have hg' : z.cps.size ≤ i := hg
    unfold pyNext
    have hT : s.TypeIs (.ref e) "enumerate" := ⟨_, he, rfl⟩
    refine wpAny_bind (wpAny_attempt (wpAny_callSpecial?_slot (name := Str.ofString "__next__") hT F.slot_enumerate_next (wpAny_call_entry F.slot_enumerate_next hT F.entry_enumerate_next ?_ (F.args_enumerate_next_1 _))))
    show wpAny _ _ (field (.ref e) 2 >>= _) _ _ _
    refine wpAny_bind (wpAny_field he rfl (x := .ref it) rfl ?_)
    refine wpAny_bind (?_ : wpAny (model X.prog X.w) X.A.in1 (Builtin.SmallTypes.nextOf (.ref it)) _ _ s)
    cases ha : z.cps.all (· < 128)
    · have e2 : strIterType z = "str_iterator" := by simp [strIterType, ha]
      rw [e2] at hit
      refine wpAny_nextOf_wide_end (I.ok.hd hc) hit (by simpa using hg') fun h' x he' hx' => ?_
      obtain ⟨o, ho, hc'⟩ := hx'
      refine wpAny_bind (wpAny_isInstance (T := "StopIteration") (b := true) ⟨o, ho, hc'⟩ isSubtype_stop ?_)
      exact wpAny_pure ⟨rfl, I.turned (t' := s.toks) (fun b o hb q => he' b o hb q) f0 f1 f3 f4 f5⟩
    · have e2 : strIterType z = "str_ascii_iterator" := by simp [strIterType, ha]
      rw [e2] at hit
      refine wpAny_nextOf_ascii_end (I.ok.hd hc) hit (by simpa using hg') fun h' x he' hx' => ?_
      obtain ⟨o, ho, hc'⟩ := hx'
      refine wpAny_bind (wpAny_isInstance (T := "StopIteration") (b := true) ⟨o, ho, hc'⟩ isSubtype_stop ?_)
      exact wpAny_pure ⟨rfl, I.turned (t' := s.toks) (fun b o hb q => he' b o hb q) f0 f1 f3 f4 f5⟩
  self := fun A i s Q E st h => by
    obtain ⟨⟨_, he⟩, _⟩ := st
    exact wpAny_pyIter_enum he h
/-- enumerate(list | tuple | text) -/
def iEnumA (K : PySem.W.Frag) (ta : TA) : TI := fun σ H R => ta σ H fun vs H1 => (∃ a xs, vs = [.ref a] ∧ SqL K H1 a xs ∧ R (Ite K a) H1) ∨ (∃ a xs, vs = [.ref a] ∧ SqT K H1 a xs ∧ R (IteT K a) H1) ∨ ∃ z, vs = [.str z] ∧ R (IteS z) H1
theorem pi_enumA {X : Cx} {e : Expr} {ta : TA} {p pos tpos : Pos} {elts : List Expr} {kk : Nat} (hg : Gl X "enumerate") (hm : X.mg "enumerate" = none) (ha : PA X [e] ta) (hs : starEach [e] X.env = [(false, eval e X.env)]) :
    PI X (.Tuple elts kk tpos) (.Call (.Name "enumerate" p) [e] [] pos) (iEnumA X.K ta) := by
  refine ⟨fun pins s σ H R I h => ?_⟩
  refine Call_ (ld_blt I hg hm boot_enumerate (PyProof.Rows.callWith_type1 (thn (ha.run pos pins s σ H _ I h) fun us s1 ⟨vs, H1, I1, r1, q1⟩ => ?_) hs rfl))
  have fp : ∀ b ∈ [s1.heap.objs.size + 1, s1.heap.objs.size], FpOk X pins H1 b := fun b hb => by
    have hle : s1.heap.objs.size ≤ b := by
      simp only [List.mem_cons, List.not_mem_nil, or_false] at hb
      rcases hb with rfl | rfl
      · exact Nat.le_add_right _ _
      · exact Nat.le_refl _
    exact I1.fpOk hle (I1.hok.fresh hle)
  rcases q1 with ⟨a, xs, rfl, hq, q⟩ | ⟨a, xs, rfl, hq, q⟩ | ⟨z, rfl, q⟩
  · obtain ⟨u, rfl, ru⟩ := vals1 r1
    obtain rfl : u = Value.ref a := ru
    obtain ⟨its, rv, p', hz⟩ := I1.list hq
    refine call_enumerate_list p'.isList fun h' he hit hsz hk => wpAny_pyIter_enum he ?_
    exact ⟨s1.heap.objs.size + 1, _, _, _, H1, rfl, I1.kept (t' := s1.toks) hk, turn_enum a (s1.heap.objs.size + 1) s1.heap.objs.size, ⟨⟨.none, he⟩, hit, Nat.succ_ne_self _⟩, fp, q⟩
  · obtain ⟨u, rfl, ru⟩ := vals1 r1
    obtain rfl : u = Value.ref a := ru
    obtain ⟨its, rv, p', hz⟩ := I1.tuple hq
    refine EnM.call_enumT (show s1.heap.IsTuple a its.toArray from p') fun h' he hit hsz hk => wpAny_pyIter_enum he ?_
    exact ⟨s1.heap.objs.size + 1, _, _, _, H1, rfl, I1.kept (t' := s1.toks) hk, turn_enumT a (s1.heap.objs.size + 1) s1.heap.objs.size, ⟨⟨.none, he⟩, hit, Nat.succ_ne_self _⟩, fp, q⟩
  · obtain ⟨u, rfl, t, rfl⟩ := vals1 r1
    refine call_enumerate_str fun h' he hit hsz hk => wpAny_pyIter_enum he ?_
    exact ⟨s1.heap.objs.size + 1, _, _, _, H1, rfl, I1.kept (t' := s1.toks) hk, turn_enumS z t (s1.heap.objs.size + 1) s1.heap.objs.size, ⟨⟨.none, he⟩, hit, Nat.succ_ne_self _⟩, fp, q⟩
end
end Pm
end
section
set_option Elab.async false
set_option linter.all false
set_option maxHeartbeats 2000000
/-! Pm11: what is walked, comprehensions. -/
namespace Pm
open PySem PySem.Spec PyProof.Rows L2

section
variable {G : Gx} {F : Cf} {D : Ds} {X : Cx} {N : List Str} {sc : Scope} {B : List Addr} {ρ ρ' ρ1 : Nat → Addr} {S S' S1 : Sto} {H H' H1 : Hp}

/-! ### blocks -/
theorem lookup_rel {env : Env} : ∀ {names : List (Str × NameKind)} {x : Str} {k : NameKind}, names.lookup x = some k →
    (names.map fun (n, k) => if (k == NameKind.free && env.scope.kind == .function && env.kindOf n == some .cell) then (n, NameKind.cell) else (n, k)).lookup x = some k ∨
    (k = .free ∧ (names.map fun (n, k) => if (k == NameKind.free && env.scope.kind == .function && env.kindOf n == some .cell) then (n, NameKind.cell) else (n, k)).lookup x = some .cell)
  | [], _, _, h => by simp at h
  | (n, k) :: r, x, k', h => by
    have ih := @lookup_rel env r x k'
    show List.lookup x ((if (k == NameKind.free && env.scope.kind == .function && env.kindOf n == some .cell) = true then (n, NameKind.cell) else (n, k)) :: _) = _ ∨ (_ ∧ List.lookup x ((if (k == NameKind.free && env.scope.kind == .function && env.kindOf n == some .cell) = true then (n, NameKind.cell) else (n, k)) :: _) = _)
    cases hx : x == n with
    | true =>
      simp only [List.lookup_cons, hx, Option.some.injEq] at h
      subst h
      by_cases hc : (k == NameKind.free && env.scope.kind == .function && env.kindOf n == some .cell) = true
      · rw [if_pos hc]
        simp only [Bool.and_eq_true, beq_iff_eq] at hc
        refine .inr ⟨?_, by simp only [List.lookup_cons, hx]⟩
        have := hc.1.1
        cases k <;> first | rfl | (exact absurd this (by decide))
      · rw [if_neg hc]
        exact .inl (by simp only [List.lookup_cons, hx])
    | false =>
      simp only [List.lookup_cons, hx] at h
      by_cases hc : (k == NameKind.free && env.scope.kind == .function && env.kindOf n == some .cell) = true
      · rw [if_pos hc]; simp only [List.lookup_cons, hx]; exact ih h
      · rw [if_neg hc]; simp only [List.lookup_cons, hx]; exact ih h
theorem XP.blk (x0 : XP G F D X N sc) {scope : Scope} {s : Shared} {C : Addr} {cl : List (Str × Addr)} {fp : List Addr} : XP G F D (X.blk s H scope (compEnvC scope cl C X.env) fp) N scope where
  kk := x0.kk
  nn := x0.nn
  ss := fun x k h => lookup_rel h
  nd := x0.nd
  calm := x0.calm
  un := x0.un
  gd := x0.gd
  fnok := fun x h => by
    show (scope.names.lookup x == some .cell) = true
    rw [h]
    rfl
  free := x0.free
  glb := x0.glb
  tys := x0.tys
  tyd := x0.tyd
  kit := x0.kit
  tag0 := x0.tag0
  own := x0.own
  fcall := x0.fcall
  fmeth := x0.fmeth
  spec := x0.spec
  fnew := x0.fnew
theorem XOk.blkOk (x0 : XOk G X N sc) {scope : Scope} {own : List (Str × Nat)} (h : blkC N sc scope own = true) : BlkOk X.N X.env.scope scope own := by
  have b := blkOk_by h
  refine ⟨b.kind, b.uniq, fun p hp => by rw [x0.nn]; exact b.ix p hp, fun y hy e => ?_, fun y hy e => by rw [x0.nn]; exact b.own y hy e⟩
  rcases b.free y hy e with q | q
  · rcases x0.ss _ _ q with k | ⟨k, _⟩
    · exact .inl k
    · cases k
  · rcases x0.ss _ _ q with k | ⟨_, k⟩
    · exact .inr k
    · exact .inl k

/-! ### places set aside, places made -/
theorem RelS.bar {p : Addr} {o : HO} (R : RelS G B ρ S H) (n : H p = none) : RelS G (p :: B) ρ S (upd H p o) where
  at_ := fun k u e => by
    obtain ⟨ob, q⟩ := R.mu_some ⟨k, u, e, rfl⟩
    refine (R.at_ k u e).stay (stay_later R (Stp.grow R (grow_upd n)) fun b hb => ?_) (upd_ne (ne_of_none q n))
    rcases List.mem_cons.mp hb with h | h
    · rw [h]; exact .inr n
    · exact .inl h
  inj := R.inj
  bs := fun b hb => by
    rcases List.mem_cons.mp hb with h | h
    · rw [h]; exact ⟨_, upd_same⟩
    · obtain ⟨u, q⟩ := R.bs b h; exact ⟨u, grow_upd n _ _ q⟩
  nb := fun k u e hb => by
    rcases List.mem_cons.mp hb with h | h
    · obtain ⟨ob, q⟩ := R.mu_some ⟨k, u, e, rfl⟩
      rw [h, n] at q; cases q
    · exact R.nb k u e h
theorem RelL.later {τ : Lo} {σ : L2.St} {B1 : List Addr} (R : RelS G B ρ S H) (s : Stp ρ S H ρ1 S1 H1) (h : ∀ b ∈ B1, b ∈ B ∨ H b = none) (L : RelL G B ρ S H τ σ) : RelL G B1 ρ1 S1 H1 τ σ :=
  ⟨L.len, fun i u e => by
    obtain ⟨v, e1, r⟩ := L.at_ i u e
    refine ⟨v, e1, ?_⟩
    cases u with
    | p w => exact Rep.stay (stay_later R s h) r
    | loc n =>
      obtain ⟨h1, h2⟩ := r
      exact ⟨Nat.lt_of_lt_of_le h1 s.len, by rw [(s.loc0 n h1).2]; exact h2⟩⟩
theorem RelL.park {τ : Lo} {σ : L2.St} {n : Nat} {o : MO} (R : RelS G B ρ S H) (e : S[n]? = some (some o)) (L : RelL G B ρ S H τ σ) : RelL G (ρ n :: B) ρ (S.set n none) H τ σ :=
  ⟨L.len, fun i u e' => by
    obtain ⟨v, e1, r⟩ := L.at_ i u e'
    refine ⟨v, e1, ?_⟩
    cases u with
    | p w => exact Rep.stay (R.park e).2 r
    | loc k =>
      obtain ⟨h1, h2⟩ := r
      exact ⟨by simpa using h1, h2⟩⟩
/-- a list of the barrier becomes a place -/
theorem RelS.unpark {B0 : List Addr} {n : Nat} {a : Addr} {ws : List W} {vs : List V} (R : RelS G B ρ S H) (ha : a ∈ B) (hb : ∀ b ∈ B0, b ∈ B) (h0 : a ∉ B0) (hv : H a = some (.lst vs)) (r : Reps G (Zf B ρ S) H ws vs)
    (hS : ∀ k o, S1[k]? = some (some o) → (k = n ∧ o = .lst ws) ∨ (k ≠ n ∧ S[k]? = some (some o))) :
    RelS G B0 (fun k => if k = n then a else ρ k) S1 H ∧ Stay G (Zf B ρ S) (Zf B0 (fun k => if k = n then a else ρ k) S1) H H := by
  have st : Stay G (Zf B ρ S) (Zf B0 (fun k => if k = n then a else ρ k) S1) H H := ⟨fun _ _ q => q, fun b o z q => ⟨q, fun ⟨k, o', e, m⟩ => by
    dsimp only at m
    rcases hS k o' e with ⟨rfl, _⟩ | ⟨hk, e2⟩
    · rw [if_pos rfl] at m
      exact z.2 (m ▸ ha)
    · rw [if_neg hk] at m
      exact z.1 ⟨k, o', e2, m⟩, fun h => z.2 (hb b h)⟩⟩
  refine ⟨⟨fun k o e => ?_, fun k m o o' e e' q => ?_, fun b h => R.bs b (hb b h), fun k o e h => ?_⟩, st⟩
  · try dsimp only
    rcases hS k o e with ⟨rfl, rfl⟩ | ⟨hk, e2⟩
    · rw [if_pos rfl]
      exact ⟨vs, hv, Reps.stay st r⟩
    · rw [if_neg hk]
      exact (R.at_ k o e2).stay st rfl
  · try dsimp only at q
    rcases hS k o e with ⟨hk, _⟩ | ⟨hk, e2⟩ <;> rcases hS m o' e' with ⟨hm, _⟩ | ⟨hm, e3⟩
    · rw [hk, hm]
    · rw [if_pos hk, if_neg hm] at q
      exact absurd (q ▸ ha) (R.nb m o' e3)
    · rw [if_neg hk, if_pos hm] at q
      exact absurd (q ▸ ha) (R.nb k o e2)
    · rw [if_neg hk, if_neg hm] at q
      exact R.inj k m _ _ e2 e3 q
  · try dsimp only at h
    rcases hS k o e with ⟨rfl, rfl⟩ | ⟨hk, e2⟩
    · rw [if_pos rfl] at h; exact h0 h
    · rw [if_neg hk] at h
      exact R.nb k o e2 (hb _ h)
theorem set_live {n : Nat} {x : MO} (hn : n < S.length) : ∀ k o, (S.set n (some x))[k]? = some (some o) → (k = n ∧ o = x) ∨ (k ≠ n ∧ S[k]? = some (some o)) := fun k o h => by
  by_cases hk : k = n
  · subst hk
    rw [List.getElem?_set_self hn] at h
    cases h
    exact .inl ⟨rfl, rfl⟩
  · rw [List.getElem?_set_ne (Ne.symm hk)] at h
    exact .inr ⟨hk, h⟩
theorem app_live {x : MO} : ∀ k o, (S ++ [some x])[k]? = some (some o) → (k = S.length ∧ o = x) ∨ (k ≠ S.length ∧ S[k]? = some (some o)) := fun k o h => by
  by_cases hk : k < S.length
  · rw [List.getElem?_append_left hk] at h
    exact .inr ⟨by omega, h⟩
  · by_cases hk2 : k = S.length
    · subst hk2
      have e2 : o = x := by simpa using h.symm
      exact .inl ⟨rfl, e2⟩
    · rw [List.getElem?_eq_none (by simp; omega)] at h
      cases h
theorem Stp.unpark {n : Nat} {o x : MO} {ρf : Nat → Addr} {Sf : Sto} {Hf : Hp} (s : Stp ρ (S.set n none) H ρf Sf Hf) (e : S[n]? = some (some o)) : Stp ρ S H (fun k => if k = n then ρ n else ρf k) (Sf.set n (some x)) Hf := by
  have hl : S.length ≤ Sf.length := by simpa using s.len
  have hn : n < S.length := (List.getElem?_eq_some_iff.mp e).1
  refine ⟨by simpa using hl, fun k hk => ⟨fun o' h => ?_, ?_⟩, fun a u q m => ?_⟩
  · rcases set_live (Nat.lt_of_lt_of_le hn hl) k o' h with ⟨rfl, _⟩ | ⟨h1, h2⟩
    · exact ⟨o, e⟩
    · obtain ⟨⟨u, q1⟩, q2⟩ := s.loc k (by simpa using hk) o' h2
      exact ⟨u, (getElem?_set_none q1).2⟩
  · by_cases h1 : k = n
    · rw [if_pos h1, h1]
    · rw [if_neg h1]
      exact (s.loc0 k (by simpa using hk)).2
  · obtain ⟨q1, m1⟩ := s.keep a u q fun ⟨k, o', h, z⟩ => m ⟨k, o', (getElem?_set_none h).2, z⟩
    refine ⟨q1, fun ⟨k, o', h, z⟩ => ?_⟩
    dsimp only at z
    rcases set_live (Nat.lt_of_lt_of_le hn hl) k o' h with ⟨rfl, _⟩ | ⟨h1, h2⟩
    · rw [if_pos rfl] at z
      exact m ⟨k, o, e, z⟩
    · rw [if_neg h1] at z
      exact m1 ⟨k, o', h2, z⟩
theorem Stp.app {a : Addr} {x : MO} (s : Stp ρ1 S1 H1 ρ S H) (n : H1 a = none) : Stp ρ1 S1 H1 (fun k => if k = S.length then a else ρ k) (S ++ [some x]) H := by
  refine ⟨by have := s.len; simp; omega, fun k hk => ⟨fun o' h => ?_, ?_⟩, fun b u q m => ?_⟩
  · rcases app_live k o' h with ⟨rfl, _⟩ | ⟨h1, h2⟩
    · exact absurd hk (Nat.not_lt_of_le s.len)
    · exact (s.loc k hk o' h2).1
  · rw [if_neg (by have := s.len; omega)]
    exact (s.loc0 k hk).2
  · obtain ⟨q1, m1⟩ := s.keep b u q m
    refine ⟨q1, fun ⟨k, o', h, z⟩ => ?_⟩
    dsimp only at z
    rcases app_live k o' h with ⟨rfl, _⟩ | ⟨h1, h2⟩
    · rw [if_pos rfl] at z
      rw [z, q] at n; cases n
    · rw [if_neg h1] at z
      exact m1 ⟨k, o', h2, z⟩
/-- a list of the barrier is written -/
theorem RelS.wrB {p : Addr} {vs vs' : List V} (R : RelS G (p :: B) ρ S H) (e : H p = some (.lst vs)) : RelS G (p :: B) ρ S (upd H p (.lst vs')) ∧ Stay G (Zf (p :: B) ρ S) (Zf (p :: B) ρ S) H (upd H p (.lst vs')) := by
  have st : Stay G (Zf (p :: B) ρ S) (Zf (p :: B) ρ S) H (upd H p (.lst vs')) := ⟨fun a xs q => by
    have ne : ∀ o, H a = some o → (∃ xs, o = .tup xs) ∨ (∃ b u, o = .frz b u) → a ≠ p := fun o h k z => by
      rw [z, e] at h; cases h
      rcases k with ⟨_, k⟩ | ⟨_, _, k⟩ <;> cases k
    rcases q with (q | ⟨o, q⟩) | q
    · exact .inl (.inl (by rw [upd_ne (ne _ q (.inl ⟨_, rfl⟩))]; exact q))
    · exact .inl (.inr ⟨o, by rw [upd_ne (ne _ q (.inr ⟨_, _, rfl⟩))]; exact q⟩)
    · exact .inr q, fun a o z q => ⟨by rw [upd_ne fun h => z.2 (by rw [h]; exact List.mem_cons_self)]; exact q, z⟩⟩
  refine ⟨⟨fun k o h => (R.at_ k o h).stay st (upd_ne fun z => R.nb k o h (z ▸ List.mem_cons_self)), R.inj, fun b hb => ?_, R.nb⟩, st⟩
  by_cases hbp : b = p
  · rw [hbp]; exact ⟨_, upd_same⟩
  · obtain ⟨o, q⟩ := R.bs b hb
    exact ⟨o, by rw [upd_ne hbp]; exact q⟩
theorem RelS.takeN (R : RelS G B ρ S H) (n : Nat) : RelS G B ρ (S.take n) H ∧ Stay G (Zf B ρ S) (Zf B ρ (S.take n)) H H := by
  have low : ∀ {k : Nat} {o : MO}, (S.take n)[k]? = some (some o) → S[k]? = some (some o) := fun {k o} h => by
    rw [List.getElem?_take] at h
    split at h
    · exact h
    · cases h
  have st : Stay G (Zf B ρ S) (Zf B ρ (S.take n)) H H := ⟨fun _ _ q => q, fun a o z q => ⟨q, fun ⟨k, o', e, m⟩ => z.1 ⟨k, o', low e, m⟩, z.2⟩⟩
  exact ⟨⟨fun k o e => (R.at_ k o (low e)).stay st rfl, fun k m o o' e e' => R.inj k m _ _ (low e) (low e'), R.bs, fun k o e => R.nb k o (low e)⟩, st⟩
theorem Stp.takeN (s : Stp ρ S H ρ1 S1 H1) : Stp ρ S H ρ1 (S1.take S.length) H1 := by
  have low : ∀ {k : Nat} {o : MO}, (S1.take S.length)[k]? = some (some o) → S1[k]? = some (some o) := fun {k o} h => by
    rw [List.getElem?_take] at h
    split at h
    · exact h
    · cases h
  refine ⟨by have := s.len; simp; omega, fun k hk => ⟨fun o' h => (s.loc k hk o' (low h)).1, (s.loc0 k hk).2⟩, fun a o q m => ?_⟩
  obtain ⟨q1, m1⟩ := s.keep a o q m
  exact ⟨q1, fun ⟨k, o', e, z⟩ => m1 ⟨k, o', low e, z⟩⟩
theorem RelS.take_z (R : RelS G B ρ S H) {n m : Nat} {o : MO} (h : n ≤ m) (e : S[m]? = some (some o)) : Zf B ρ (S.take n) (ρ m) := by
  refine ⟨fun ⟨k, o', q, z⟩ => ?_, R.nb m o e⟩
  rw [List.getElem?_take] at q
  split at q
  · rename_i hk
    have := R.inj k m _ _ q e z
    omega
  · cases q

/-! ### what is walked -/
theorem mem_none {D : Addr} (nD : H D = none) : ∀ b ∈ D :: B, b ∈ B ∨ H b = none := fun b hb => by
  rcases List.mem_cons.mp hb with h | h
  · rw [h]; exact .inr nD
  · exact .inl h
def itM (F : Cf) (ip : Option Pr) (its : List Ex) : Lo → M U := fun τ => M.bind (evEs F its τ) (itU F ip)
theorem zip_get {α β γ : Type} {f : α → β → γ} : ∀ {a : List α} {b : List β} {i : Nat} {w : γ}, (a.zipWith f b)[i]? = some w → ∃ x y, a[i]? = some x ∧ b[i]? = some y ∧ w = f x y
  | [], _, _, _, h => by simp at h
  | _ :: _, [], _, _, h => by simp at h
  | x :: a, y :: b, 0, w, h => by simp at h; exact ⟨x, y, by simp, by simp, h.symm⟩
  | x :: a, y :: b, i + 1, w, h => by
    simp at h
    obtain ⟨x', y', h1, h2, h3⟩ := zip_get (f := f) (a := a) (b := b) (i := i) (w := w) (by simpa using h)
    exact ⟨x', y', by simpa using h1, by simpa using h2, h3⟩
theorem it_zipL {wa wb : List W} {va vb : List V} {a b : Addr} (R : RelS G B ρ S H) (h : Rd H a (.lst va)) (z : ¬ Mu ρ S a) (r : Reps G (Zf B ρ S) H wa va) (h' : Rd H b (.lst vb)) (z' : ¬ Mu ρ S b) (r' : Reps G (Zf B ρ S) H wb vb) :
    ItOk G (Itz G.K a b) (zipL wa wb) B ρ S H := by
  intro B1 ρ1 S1 H1 hB s R1 i
  have st := stay_later (B1 := B1) R s hB
  have sq : ∀ {a : Addr} {vs : List V}, Rd H a (.lst vs) → ¬ Mu ρ S a → SqL G.K H1 a vs := fun {a vs} h z => by
    rcases h with h | ⟨o, h⟩
    · exact .inl (.inl (s.keep a _ h z).1)
    · exact .inl (.inr ⟨o, (s.keep a _ h z).1⟩)
  have h1 := sq h z
  have h2 := sq h' z'
  refine ⟨fun e => ⟨va, vb, h1, h2, by rw [r.length, r'.length]; unfold zipL at e; rw [List.length_zipWith] at e; omega⟩, fun w hw => ?_⟩
  obtain ⟨x, y, e1, e2, rfl⟩ := zip_get hw
  obtain ⟨v, hv, rv⟩ := (Reps.stay st r).get e1
  obtain ⟨v', hv', rv'⟩ := (Reps.stay st r').get e2
  refine ⟨⟨va, vb, v, v', h1, h2, hv, hv'⟩, fun x H2 y => ?_⟩
  obtain ⟨T, x1, y1, rfl, nT, rfl, k1, k2⟩ := y
  have q1 := k1 _ h1
  have q2 := k2 _ h2
  rw [hv] at q1; cases q1
  rw [hv'] at q2; cases q2
  exact ⟨grow_upd nT, repT (.inl (.inl upd_same)) (Reps.stay (Stay.grow (grow_upd nT)) (Reps.cons rv (Reps.cons rv' Reps.nil)))⟩
theorem it_zipT {wa wb : List W} {va vb : List V} {a b : Addr} (R : RelS G B ρ S H) (h : SqT G.K H a va) (r : Reps G (Zf B ρ S) H wa va) (h' : SqT G.K H b vb) (r' : Reps G (Zf B ρ S) H wb vb) :
    ItOk G (RZ.ItzT G.K a b) (zipL wa wb) B ρ S H := by
  intro B1 ρ1 S1 H1 hB s R1 i
  have st := stay_later (B1 := B1) R s hB
  have h1 := st.tup _ _ h
  have h2 := st.tup _ _ h'
  refine ⟨fun e => ⟨va, vb, h1, h2, by rw [r.length, r'.length]; unfold zipL at e; rw [List.length_zipWith] at e; omega⟩, fun w hw => ?_⟩
  obtain ⟨x, y, e1, e2, rfl⟩ := zip_get hw
  obtain ⟨v, hv, rv⟩ := (Reps.stay st r).get e1
  obtain ⟨v', hv', rv'⟩ := (Reps.stay st r').get e2
  refine ⟨⟨va, vb, v, v', h1, h2, hv, hv'⟩, fun x H2 y => ?_⟩
  obtain ⟨T, x1, y1, rfl, nT, rfl, k1, k2⟩ := y
  have q1 := k1 _ h1
  have q2 := k2 _ h2
  rw [hv] at q1; cases q1
  rw [hv'] at q2; cases q2
  exact ⟨grow_upd nT, repT (.inl (.inl upd_same)) (Reps.stay (Stay.grow (grow_upd nT)) (Reps.cons rv (Reps.cons rv' Reps.nil)))⟩
theorem line62_of {n : Int} (h : line62 n = true) : -(2 ^ 62) ≤ n ∧ n < 2 ^ 62 := by
  simp only [line62, Bool.and_eq_true, decide_eq_true_eq] at h
  omega
theorem rd_rng1 {its : List Ex} : ∀ σ H R, rdI G (itM F (some .range1) its) σ H R → iRng1 (rdA G (evEs F its)) σ H R := by
  rintro σ H R ⟨B, ρ, S, τ, R0, L, q⟩
  refine ⟨B, ρ, S, τ, R0, L, (ItG.bind (Rp := RpUs G) q).imp ?_⟩
  rintro x H1 ⟨ρ1, S1, us, e1, R1, s1, r1, q1⟩
  match us, r1, q1 with
  | [], _, q1 => exact q1.elim
  | _ :: _ :: _, _, q1 => exact q1.elim
  | [u], r1, q1 =>
    obtain ⟨v, rfl, rv⟩ := r1.eq1
    simp only [itU, prE, p1, M.bind] at q1
    cases e2 : rdU u S1 with
    | err _ _ _ => simp only [e2] at q1; exact q1.elim
    | bad => simp only [e2] at q1; exact q1.elim
    | ok w S2 =>
      obtain ⟨rfl, p⟩ := rdU_ok R1 rv e2
      simp only [e2] at q1
      cases w with
      | int n =>
        simp only at q1
        by_cases hl : line62 n = true
        · rw [if_pos hl] at q1
          obtain ⟨ws, ew, q1⟩ := q1
          simp only [itemsW, Option.some.injEq] at ew
          subst ew
          obtain ⟨l1, l2⟩ := line62_of hl
          refine ⟨n, by rw [rep0_int p], l1, l2, q1 _ ρ1 H1 .refl R1 (it_rng ?_)⟩
          unfold rng
          rw [show (n - 0).toNat = n.toNat by simp]
        · rw [if_neg hl] at q1; exact q1.elim
      | _ => exact q1.elim
theorem rd_rng2 {its : List Ex} : ∀ σ H R, rdI G (itM F (some .range2) its) σ H R → iRng2 (rdA G (evEs F its)) σ H R := by
  rintro σ H R ⟨B, ρ, S, τ, R0, L, q⟩
  refine ⟨B, ρ, S, τ, R0, L, (ItG.bind (Rp := RpUs G) q).imp ?_⟩
  rintro x H1 ⟨ρ1, S1, us, e1, R1, s1, r1, q1⟩
  match us, r1, q1 with
  | [], _, q1 => exact q1.elim
  | [_], _, q1 => exact q1.elim
  | _ :: _ :: _ :: _, _, q1 => exact q1.elim
  | [u, u'], r1, q1 =>
    obtain ⟨v, v', rfl, rv, rv'⟩ := r1.eq2
    simp only [itU, prE, p2, M.bind] at q1
    cases e2 : rdU u S1 with
    | err _ _ _ => simp only [e2] at q1; exact q1.elim
    | bad => simp only [e2] at q1; exact q1.elim
    | ok w S2 =>
      obtain ⟨rfl, p⟩ := rdU_ok R1 rv e2
      simp only [e2] at q1
      cases e3 : rdU u' S2 with
      | err _ _ _ => simp only [e3] at q1; exact q1.elim
      | bad => simp only [e3] at q1; exact q1.elim
      | ok w' S3 =>
        obtain ⟨rfl, p'⟩ := rdU_ok R1 rv' e3
        simp only [e3] at q1
        cases w <;> first | exact q1.elim | skip
        cases w' <;> first | exact q1.elim | skip
        rename_i m n
        simp only at q1
        by_cases hl : (line62 m && line62 n) = true
        · rw [if_pos hl] at q1
          obtain ⟨ws, ew, q1⟩ := q1
          simp only [itemsW, Option.some.injEq] at ew
          subst ew
          simp only [Bool.and_eq_true] at hl
          obtain ⟨l1, l2⟩ := line62_of hl.1
          obtain ⟨l3, l4⟩ := line62_of hl.2
          exact ⟨m, n, by rw [rep0_int p, rep0_int p'], ⟨l1, l2, l3, l4⟩, q1 _ ρ1 H1 .refl R1 (it_rng rfl)⟩
        · rw [if_neg hl] at q1; exact q1.elim
theorem rd_zipA {its : List Ex} : ∀ σ H R, rdI G (itM F (some .zip) its) σ H R → RZ.iZipA G.K (rdA G (evEs F its)) σ H R := by
  rintro σ H R ⟨B, ρ, S, τ, R0, L, q⟩
  refine ⟨B, ρ, S, τ, R0, L, (ItG.bind (Rp := RpUs G) q).imp ?_⟩
  rintro x H1 ⟨ρ1, S1, us, e1, R1, s1, r1, q1⟩
  match us, r1, q1 with
  | [], _, q1 => exact q1.elim
  | [.p _], _, q1 => exact q1.elim
  | [.loc _], _, q1 => exact q1.elim
  | .p _ :: .p _ :: _ :: _, _, q1 => exact q1.elim
  | .loc _ :: _ :: _ :: _, _, q1 => exact q1.elim
  | .p _ :: .loc _ :: _ :: _, _, q1 => exact q1.elim
  | [.loc _, _], _, q1 => exact q1.elim
  | [.p _, .loc _], _, q1 => exact q1.elim
  | [.p w, .p w'], r1, q1 =>
    obtain ⟨v, v', rfl, rv, rv'⟩ := r1.eq2
    simp only [itU, prE] at q1
    cases e : zipW w w' with
    | none => simp only [e] at q1; exact q1.elim
    | some ws =>
      simp only [e] at q1
      obtain ⟨ws', ew, q1⟩ := q1
      simp only [itemsW, Option.some.injEq] at ew
      subst ew
      unfold zipW at e
      split at e <;> cases e
      · simp only [RepU, Rep] at rv rv'
        obtain ⟨a, va, rfl, ha, ra⟩ := rv
        obtain ⟨b, vb, rfl, hb, rb⟩ := rv'
        exact ⟨a, b, va, vb, rfl, .inr ⟨ha, hb, q1 _ ρ1 H1 .refl R1 (it_zipT R1 ha ra hb rb)⟩⟩
      · simp only [RepU, Rep] at rv rv'
        obtain ⟨a, va, rfl, ha, za, ra⟩ := rv
        obtain ⟨b, vb, rfl, hb, zb, rb⟩ := rv'
        exact ⟨a, b, va, vb, rfl, .inl ⟨.inl ha, .inl hb, q1 _ ρ1 H1 .refl R1 (it_zipL R1 ha za.1 ra hb zb.1 rb)⟩⟩
theorem enum_get {ws : List W} {i : Nat} {w : W} (h : (enumW ws)[i]? = some w) : ∃ x, ws[i]? = some x ∧ w = .tup [.int (i : Nat), x] := by
  unfold enumW at h
  rw [List.getElem?_map, Option.map_eq_some_iff] at h
  obtain ⟨⟨x, j⟩, e, rfl⟩ := h
  rw [List.getElem?_zipIdx, Option.map_eq_some_iff] at e
  obtain ⟨y, e1, e2⟩ := e
  cases e2
  exact ⟨x, e1, by simp⟩
theorem enum_len {ws : List W} : (enumW ws).length = ws.length := by simp [enumW]
theorem it_enumT {wa : List W} {va : List V} {a : Addr} (R : RelS G B ρ S H) (h : SqT G.K H a va) (r : Reps G (Zf B ρ S) H wa va) : ItOk G (IteT G.K a) (enumW wa) B ρ S H := by
  intro B1 ρ1 S1 H1 hB s R1 i
  have st := stay_later (B1 := B1) R s hB
  have h1 := st.tup _ _ h
  refine ⟨fun e => ⟨va, h1, by rw [r.length]; rw [enum_len] at e; omega⟩, fun w hw => ?_⟩
  obtain ⟨x, e1, rfl⟩ := enum_get hw
  obtain ⟨v, hv, rv⟩ := (Reps.stay st r).get e1
  refine ⟨⟨v, va, h1, hv⟩, fun x H2 y => ?_⟩
  obtain ⟨T, x1, rfl, nT, rfl, k1⟩ := y
  have q1 := k1 _ h1
  rw [hv] at q1; cases q1
  exact ⟨grow_upd nT, repT (.inl (.inl upd_same)) (Reps.stay (Stay.grow (grow_upd nT)) (Reps.cons (repI _) (Reps.cons rv Reps.nil)))⟩
theorem it_enumL {wa : List W} {va : List V} {a : Addr} (R : RelS G B ρ S H) (h : Rd H a (.lst va)) (z : ¬ Mu ρ S a) (r : Reps G (Zf B ρ S) H wa va) : ItOk G (Ite G.K a) (enumW wa) B ρ S H := by
  intro B1 ρ1 S1 H1 hB s R1 i
  have st := stay_later (B1 := B1) R s hB
  have h1 : SqL G.K H1 a va := by
    rcases h with h | ⟨o, h⟩
    · exact .inl (.inl (s.keep a _ h z).1)
    · exact .inl (.inr ⟨o, (s.keep a _ h z).1⟩)
  refine ⟨fun e => ⟨va, h1, by rw [r.length]; rw [enum_len] at e; omega⟩, fun w hw => ?_⟩
  obtain ⟨x, e1, rfl⟩ := enum_get hw
  obtain ⟨v, hv, rv⟩ := (Reps.stay st r).get e1
  refine ⟨⟨va, v, h1, hv⟩, fun x H2 y => ?_⟩
  obtain ⟨T, x1, rfl, nT, rfl, k1⟩ := y
  have q1 := k1 _ h1
  rw [hv] at q1; cases q1
  exact ⟨grow_upd nT, repT (.inl (.inl upd_same)) (Reps.stay (Stay.grow (grow_upd nT)) (Reps.cons (repI _) (Reps.cons rv Reps.nil)))⟩
theorem it_enumS {z : Str} : ItOk G (IteS z) (enumW (strL z)) B ρ S H := by
  intro B1 ρ1 S1 H1 hB s R1 i
  refine ⟨fun e => ?_, fun w hw => ?_⟩
  · rw [enum_len] at e
    simp only [strL, List.length_map] at e
    show z.cps.size ≤ i
    rw [e]
    simp
  · obtain ⟨x, e1, rfl⟩ := enum_get hw
    simp only [strL, List.getElem?_map, Option.map_eq_some_iff] at e1
    obtain ⟨c, hc, rfl⟩ := e1
    have hc' : z.cps[i]? = some c := by simpa using hc
    refine ⟨⟨_, c, hc', rfl⟩, fun x H2 y => ?_⟩
    obtain ⟨T, x1, rfl, nT, rfl, c1, k1, rfl⟩ := y
    rw [hc'] at k1
    cases k1
    exact ⟨grow_upd nT, repT (.inl (.inl upd_same)) (Reps.cons (repI _) (Reps.cons (repS _) Reps.nil))⟩
theorem rd_enumA {its : List Ex} : ∀ σ H R, rdI G (itM F (some .enum) its) σ H R → iEnumA G.K (rdA G (evEs F its)) σ H R := by
  rintro σ H R ⟨B, ρ, S, τ, R0, L, q⟩
  refine ⟨B, ρ, S, τ, R0, L, (ItG.bind (Rp := RpUs G) q).imp ?_⟩
  rintro x H1 ⟨ρ1, S1, us, e1, R1, s1, r1, q1⟩
  match us, r1, q1 with
  | [], _, q1 => exact q1.elim
  | .p _ :: _ :: _, _, q1 => exact q1.elim
  | .loc _ :: _ :: _, _, q1 => exact q1.elim
  | [.loc _], _, q1 => exact q1.elim
  | [.p w], r1, q1 =>
    obtain ⟨v, rfl, rv⟩ := r1.eq1
    simp only [itU, prE] at q1
    cases e : itemsW w with
    | none => simp only [e] at q1; exact q1.elim
    | some ws =>
      simp only [e] at q1
      obtain ⟨ws', ew, q1⟩ := q1
      simp only [itemsW, Option.some.injEq] at ew
      subst ew
      cases w <;> simp only [itemsW, Option.some.injEq, reduceCtorEq] at e
      · subst e
        simp only [RepU, Rep] at rv
        obtain rfl := rv
        exact .inr (.inr ⟨_, rfl, q1 _ ρ1 H1 .refl R1 it_enumS⟩)
      · subst e
        simp only [RepU, Rep] at rv
        obtain ⟨a, va, rfl, ha, ra⟩ := rv
        exact .inr (.inl ⟨a, va, rfl, ha, q1 _ ρ1 H1 .refl R1 (it_enumT R1 ha ra)⟩)
      · subst e
        simp only [RepU, Rep] at rv
        obtain ⟨a, va, rfl, ha, za, ra⟩ := rv
        exact .inl ⟨a, va, rfl, .inl ha, q1 _ ρ1 H1 .refl R1 (it_enumL R1 ha za.1 ra)⟩
theorem pi_it (x0 : XP G F D X N sc) {ip : Option Pr} {tg e : Expr} {es : List Expr} {its : List Ex} (h : itArgs D sc ip tg e = some es) (a : AllPE G F X its es) : PI X tg e (rdI G (itM F ip its)) := by
  unfold itArgs at h
  split at h
  · cases h
    obtain ⟨a1, rfl, h1⟩ := a.one
    have e2 : itM F none [a1] = evE F a1 := by
      funext τ S
      simp only [itM, evEs, M.bind]
      cases evE F a1 τ S <;> rfl
    rw [e2]
    exact pi_seq x0.toXOk h1
  · split at h <;> cases h
    rename_i hq
    simp only [Bool.and_eq_true, decide_eq_true_eq, Bool.not_eq_true'] at hq
    obtain ⟨⟨⟨rfl, g1⟩, g2⟩, g3⟩ := hq
    exact PI.imp (pi_range1 (gl_of x0.toXOk g1) (x0.free _ g2) (pa_of a (by simp [g3])) (by rw [star_cons g3]; rfl)) rd_rng1
  · split at h <;> cases h
    rename_i hq
    simp only [Bool.and_eq_true, decide_eq_true_eq, Bool.not_eq_true'] at hq
    obtain ⟨⟨⟨⟨rfl, g1⟩, g2⟩, g3⟩, g4⟩ := hq
    exact PI.imp (pi_range2 (gl_of x0.toXOk g1) (x0.free _ g2) (pa_of a (by simp [g3, g4])) (by rw [star_cons g3, star_cons g4]; rfl) (by rw [star_cons g4]; rfl)) rd_rng2
  · split at h <;> cases h
    rename_i hq
    simp only [Bool.and_eq_true, decide_eq_true_eq, Bool.not_eq_true'] at hq
    obtain ⟨⟨⟨⟨rfl, g1⟩, g2⟩, g3⟩, g4⟩ := hq
    refine PI.imp (RZ.pi_zipA (gl_of x0.toXOk g1) (x0.free _ g2) (pa_of a (by simp [g3, g4])) (star_cons g3) (star_any (by simp [g4]))) ?_
    rw [x0.kk]
    exact rd_zipA
  · split at h <;> cases h
    rename_i hq
    simp only [Bool.and_eq_true, decide_eq_true_eq, Bool.not_eq_true'] at hq
    obtain ⟨⟨⟨rfl, g1⟩, g2⟩, g3⟩ := hq
    refine PI.imp (pi_enumA (gl_of x0.toXOk g1) (x0.free _ g2) (pa_of a (by simp [g3])) (by rw [star_cons g3]; rfl)) ?_
    rw [x0.kk]
    exact rd_enumA
  · cases h

/-! ### comprehensions -/
def trnF (F : Cf) (vs : List Nat) (tg : Tg) (cond : List Ex) (elt : Ex) (τ : Lo) (w : W) : M (Option W) := match bindTg tg w (wipeL τ vs) with
  | none => badM
  | some τ1 => M.bind (evC F cond τ1) fun b => if b = true then M.bind (evE F elt τ1) fun v => M.bind (frU v) fun y => fun S => .ok (some y) S else fun S => .ok none S
theorem wipe_idem {σ : L2.St} : ∀ {vs : List Nat}, L2.wipe (L2.wipe σ vs) vs = L2.wipe σ vs
  | [] => rfl
  | v :: vs => by
    have key : ∀ {us : List Nat} {τ : L2.St}, L2.wipe (τ.set v none) us = (L2.wipe τ us).set v none := by
      intro us
      induction us with
      | nil => intro τ; rfl
      | cons u us ih =>
        intro τ
        simp only [L2.wipe]
        rw [ih]
        by_cases h : v = u
        · subst h; rfl
        · rw [List.set_comm _ _ h]
    simp only [L2.wipe]
    rw [key, wipe_idem, List.set_set]
theorem comp_turns {J : It} {ws ys : List W} {τ : Lo} {σ : L2.St} {vs0 : List Nat} {tg : Tg} {cond : List Ex} {elt : Ex} {Sf : Sto} {Qd : Hp → Prop} {Dn : Addr} (R1 : RelS G B ρ1 S1 H1) (L : RelL G B ρ1 S1 H1 τ σ) (it : ItOk G J ws B ρ1 S1 H1)
    (hl : ws.length ≤ bigLine) (hs : ∀ i ∈ tgS tg, i ∈ vs0) (e : compL (trnF F vs0 tg cond elt τ) ws S1 = .ok ys Sf) (nD : H1 Dn = none)
    (hQ : ∀ ρf Hf vs, Stp ρ1 S1 H1 ρf Sf Hf → RelS G (Dn :: B) ρf Sf Hf → Hf Dn = some (.lst vs) → Reps G (Zf (Dn :: B) ρf Sf) Hf ys vs → Qd Hf) :
    ∃ W : Nat → Nat → Hp → Prop, (∃ m, W 0 m (upd H1 Dn (.lst []))) ∧ ∀ i m H, W i m H →
      (J.stop i H ∧ Qd H) ∨ (J.go i H ∧ ∃ Nx : Hp → Prop, (∀ H', Nx H' → ∃ m', m' < m ∧ W (i + 1) m' H') ∧ ∀ x H', J.yld i H x H' → tgR G tg x (L2.wipe σ vs0) H' fun σ2 H2 => L2.wipe σ2 vs0 = L2.wipe σ vs0 ∧ rdT G (evC F cond) σ2 H2 fun b H3 =>
        if b = true then rdE G (evE F elt) σ2 H3 fun y H4 => ∃ acc, H4 Dn = some (.lst acc) ∧ acc.length < sizeLine ∧ Nx (upd H4 Dn (.lst (acc ++ [y]))) else Nx H3) := by
  refine ⟨fun i m H => ∃ ρ' S' done vs rest, i ≤ ws.length ∧ m = ws.length - i ∧ RelS G (Dn :: B) ρ' S' H ∧ Stp ρ1 S1 H1 ρ' S' H ∧ H Dn = some (.lst vs) ∧ Reps G (Zf (Dn :: B) ρ' S') H done vs ∧ done.length ≤ i ∧
    compL (trnF F vs0 tg cond elt τ) (ws.drop i) S' = .ok rest Sf ∧ done ++ rest = ys, ⟨_, ρ1, S1, [], [], ys, Nat.zero_le _, rfl, R1.bar nD, Stp.grow R1 (grow_upd nD), upd_same, Reps.nil, Nat.le_refl _, by simpa using e, rfl⟩, ?_⟩
  rintro i m H ⟨ρ', S', done, vs, rest, hi, rfl, R, s, hD, r, hd, ec, ey⟩
  have ok := it (Dn :: B) ρ' S' H (mem_none nD) s R i
  by_cases hlt : i < ws.length
  · refine .inr ?_
    have hw : ws[i]? = some ws[i] := List.getElem?_eq_getElem hlt
    obtain ⟨go, yl⟩ := ok.2 _ hw
    refine ⟨go, fun H' => ∃ ρ'' S'' done' vs' rest', RelS G (Dn :: B) ρ'' S'' H' ∧ Stp ρ1 S1 H1 ρ'' S'' H' ∧ H' Dn = some (.lst vs') ∧ Reps G (Zf (Dn :: B) ρ'' S'') H' done' vs' ∧ done'.length ≤ i + 1 ∧
      compL (trnF F vs0 tg cond elt τ) (ws.drop (i + 1)) S'' = .ok rest' Sf ∧ done' ++ rest' = ys, ?_, ?_⟩
    · rintro H' ⟨ρ'', S'', done', vs', rest', a1, a2, a3, a4, a5, a6, a7⟩
      exact ⟨ws.length - (i + 1), by omega, ρ'', S'', done', vs', rest', hlt, rfl, a1, a2, a3, a4, a5, a6, a7⟩
    · intro x H2 y
      obtain ⟨keep, rx⟩ := yl x H2 y
      have Rg := R.grow keep
      have sg := Stp.grow R keep
      rw [List.drop_eq_getElem_cons hlt] at ec
      simp only [compL, M.bind] at ec
      cases e1 : trnF F vs0 tg cond elt τ ws[i] S' with
      | err _ _ _ => simp only [e1, reduceCtorEq] at ec
      | bad => simp only [e1, reduceCtorEq] at ec
      | ok o S2 =>
        simp only [e1] at ec
        cases e2 : compL (trnF F vs0 tg cond elt τ) (ws.drop (i + 1)) S2 with
        | err _ _ _ => simp only [e2, reduceCtorEq] at ec
        | bad => simp only [e2, reduceCtorEq] at ec
        | ok rest' S3 =>
          simp only [e2, Res.ok.injEq] at ec
          obtain ⟨er, rfl⟩ := ec
          cases ebind : bindTg tg ws[i] (wipeL τ vs0) with
          | none => simp only [trnF, ebind] at e1; cases e1
          | some τ1 =>
            simp only [trnF, ebind] at e1
            have L2' : RelL G (Dn :: B) ρ' S' H2 (wipeL τ vs0) (L2.wipe σ vs0) := ((RelL.later R1 s (mem_none nD) L).stp sg R).wipe vs0
            obtain ⟨σ1, L1, hw1, k1⟩ := tg_bind ebind L2' rx
            refine k1 _ ⟨by rw [hw1 vs0 hs, wipe_idem], Dn :: B, ρ', S', τ1, Rg, L1, ?_⟩
            simp only [M.bind] at e1
            cases e3 : evC F cond τ1 S' with
            | err _ _ _ => simp only [e3, reduceCtorEq] at e1
            | bad => simp only [e3, reduceCtorEq] at e1
            | ok b S4 =>
              simp only [e3] at e1
              intro b' ρ4 H4 s4 R4 eb
              obtain rfl : b = b' := eb
              have hD4 : H4 Dn = some (.lst vs) := (s4.keep Dn _ (keep _ _ hD) fun ⟨k, o, q, z⟩ => R.nb k o q (z ▸ List.mem_cons_self)).1
              have st4 := (sg.trans s4).stay R
              have base4 := s.trans (sg.trans s4)
              cases b with
              | false =>
                simp only [Bool.false_eq_true, if_false, Res.ok.injEq] at e1 ⊢
                obtain ⟨rfl, rfl⟩ := e1
                simp only at er
                subst er
                exact ⟨ρ4, S4, done, vs, rest', R4, base4, hD4, Reps.stay st4 r, by omega, e2, ey⟩
              | true =>
                simp only [if_true] at e1 ⊢
                refine ⟨Dn :: B, ρ4, S4, τ1, R4, L1.stp s4 Rg, ?_⟩
                cases e5 : evE F elt τ1 S4 with
                | err _ _ _ => simp only [e5, M.bind, reduceCtorEq] at e1
                | bad => simp only [e5, M.bind, reduceCtorEq] at e1
                | ok v S5 =>
                  simp only [e5, M.bind] at e1
                  cases e6 : frU v S5 with
                  | err _ _ _ => simp only [e6, reduceCtorEq] at e1
                  | bad => simp only [e6, reduceCtorEq] at e1
                  | ok y S6 =>
                    simp only [e6, Res.ok.injEq] at e1
                    obtain ⟨rfl, rfl⟩ := e1
                    simp only at er
                    intro yv ρ5 H5 s5 R5 rv5
                    have hD5 : H5 Dn = some (.lst vs) := (s5.keep Dn _ hD4 fun ⟨k, o, q, z⟩ => R4.nb k o q (z ▸ List.mem_cons_self)).1
                    obtain ⟨s6, R6, ry⟩ := frU_ok R5 rv5 e6
                    refine ⟨vs, hD5, ?_, ?_⟩
                    · rw [r.length]
                      exact Nat.lt_of_lt_of_le (Nat.lt_of_le_of_lt hd hlt) (Nat.le_trans hl big_line)
                    · obtain ⟨R7, st7⟩ := R6.wrB (vs' := vs ++ [yv]) hD5
                      have st6 := ((sg.trans s4).trans (s5.trans s6)).stay R
                      refine ⟨ρ5, _, done ++ [y], vs ++ [yv], rest', R7, ?_, upd_same, Reps.stay st7 ((Reps.stay st6 r).app (Reps.cons ry Reps.nil)), by simp; omega, e2, by rw [← ey, ← er]; simp⟩
                      have b6 := base4.trans (s5.trans s6)
                      refine ⟨b6.len, b6.loc0, fun a u q mm => ?_⟩
                      obtain ⟨q1, q2⟩ := b6.keep a u q mm
                      exact ⟨by rw [upd_ne fun z => by rw [z, nD] at q; cases q]; exact q1, q2⟩
  · have hi2 : i = ws.length := by omega
    subst hi2
    simp only [List.drop_length, compL, Res.ok.injEq] at ec
    obtain ⟨rfl, rfl⟩ := ec
    simp only [List.append_nil] at ey
    subst ey
    exact .inl ⟨ok.1 rfl, hQ ρ' H vs s R hD r⟩
theorem comp_fin {m : Bool} {ys : List W} {vs : List V} {Dn : Addr} {Q : VK} (R1 : RelS G B ρ1 S1 H1) (s : Stp ρ1 S1 H1 ρ S H) (R : RelS G (Dn :: B) ρ S H) (nD : H1 Dn = none) (hD : H Dn = some (.lst vs)) (r : Reps G (Zf (Dn :: B) ρ S) H ys vs)
    (q : FinG G B (RpU G) Q ρ1 S1 H1 ((if m = true then newU (.lst ys) else okP (.lst ys)) S)) : Q (.ref Dn) H := by
  have nB : Dn ∉ B := fun h => by
    obtain ⟨o, e⟩ := R1.bs Dn h
    rw [nD] at e; cases e
  cases m with
  | false =>
    simp only [Bool.false_eq_true, if_false] at q
    have R0 : RelS G B ρ S H := R.bsub fun b hb => List.mem_cons_of_mem _ hb
    refine q (.ref Dn) ρ H s R0 (repL (.inl hD) ⟨fun ⟨k, o, e, z⟩ => R.nb k o e (z ▸ List.mem_cons_self), nB⟩ (Reps.stay (stay_B fun b hb => .inl (List.mem_cons_of_mem _ hb)) r))
  | true =>
    simp only [if_true] at q
    obtain ⟨R2, st⟩ := R.unpark (S1 := S ++ [some (.lst ys)]) (n := S.length) (a := Dn) (B0 := B) List.mem_cons_self (fun b hb => List.mem_cons_of_mem _ hb) nB hD r app_live
    exact q (.ref Dn) _ H (s.app nD) R2 ⟨by simp, by simp⟩
theorem rd_comp {mm : Bool} {own : List (Str × Nat)} {tg : Tg} {ip : Option Pr} {its cond : List Ex} {elt : Ex} (hs : ∀ i ∈ tgS tg, i ∈ own.map (·.2)) :
    ∀ σ H Q, rdE G (evE F (.comp mm own tg ip its cond elt)) σ H Q → tLc (rdI G (itM F ip its)) (tgR G tg) (rdT G (evC F cond)) (rdE G (evE F elt)) (own.map (·.2)) σ H Q := by
  rintro σ H Q ⟨B, ρ, S, τ, R, L, q⟩
  have ev : evE F (.comp mm own tg ip its cond elt) τ = M.bind (itM F ip its τ) fun u => M.bind (walkU u fun ws => M.bind (guardM (decide (ws.length ≤ bigLine))) fun _ => compL (trnF F (own.map (·.2)) tg cond elt τ) ws) fun ws =>
      if mm = true then newU (.lst ws) else okP (.lst ws) := by
    simp only [evE, itM, bind_assoc']
    rfl
  rw [ev] at q
  refine ⟨B, ρ, S, τ, R, L, ?_⟩
  unfold M.bind at q
  cases e1 : itM F ip its τ S with
  | err _ _ _ => rw [e1] at q; exact q.elim
  | bad => rw [e1] at q; exact q.elim
  | ok u S1 =>
    rw [e1] at q
    simp only at q
    cases u with
    | p w =>
      simp only [walkU] at q
      cases ei : itemsW w with
      | none => simp only [ei] at q; exact q.elim
      | some ws =>
        simp only [ei, guardM] at q
        by_cases hl : ws.length ≤ bigLine
        · simp only [hl, decide_true, if_true] at q
          refine ⟨ws, ei, fun J ρ1 H1 s1 R1 it D nD => ?_⟩
          cases ec : compL (trnF F (own.map (·.2)) tg cond elt τ) ws S1 with
          | err _ _ _ => simp only [ec] at q; exact q.elim
          | bad => simp only [ec] at q; exact q.elim
          | ok ys Sf =>
            simp only [ec] at q
            exact comp_turns R1 (L.stp s1 R) it hl hs ec nD fun ρf Hf vs s2 R2 hD r => comp_fin R1 s2 R2 nD hD r (q.later s1)
        · simp only [hl, decide_false, Bool.false_eq_true, if_false] at q; exact q.elim
    | loc n =>
      simp only [walkU] at q
      cases en : S1[n]? with
      | none => simp only [en] at q; exact q.elim
      | some oo =>
        cases oo with
        | none => simp only [en] at q; exact q.elim
        | some o =>
          cases o with
          | dct _ => simp only [en] at q; exact q.elim
          | ins _ _ => simp only [en] at q; exact q.elim
          | lst ws =>
            simp only [en, guardM] at q
            by_cases hl : ws.length ≤ bigLine
            · simp only [hl, decide_true, if_true] at q
              refine ⟨ws, en, fun J ρ1 H1 s1 R1 it D nD => ?_⟩
              cases ec : compL (trnF F (own.map (·.2)) tg cond elt τ) ws (S1.set n none) with
              | err _ _ _ => simp only [ec] at q; exact q.elim
              | bad => simp only [ec] at q; exact q.elim
              | ok ys Sf =>
                simp only [ec] at q
                obtain ⟨Rk, stk⟩ := R1.park en
                obtain ⟨vs0, hv0, rv0⟩ := R1.at_ n _ en
                refine comp_turns Rk (RelL.park R1 en (L.stp s1 R)) it hl hs ec nD fun ρf Hf vs s2 R2 hD r => ?_
                have hn : n < S1.length := (List.getElem?_eq_some_iff.mp en).1
                have hle : S1.length ≤ Sf.length := by simpa using s2.len
                have nM : ¬ Mu ρ1 (S1.set n none) (ρ1 n) := fun ⟨k, o, e, z⟩ => by
                  obtain ⟨d1, d2⟩ := getElem?_set_none e
                  exact d1 (R1.inj k n _ _ d2 en z)
                have hvf := (s2.keep _ _ hv0 nM).1
                have nDn : ρ1 n ≠ D := fun z => by rw [z, nD] at hv0; cases hv0
                obtain ⟨R3, st3⟩ := R2.unpark (S1 := Sf.set n (some (.lst ws))) (n := n) (a := ρ1 n) (B0 := D :: B) (by simp) (fun b hb => by
                    rcases List.mem_cons.mp hb with h | h
                    · simp [h]
                    · simp [h]) (fun h => by
                    rcases List.mem_cons.mp h with h | h
                    · exact nDn h
                    · exact R1.nb n _ en h) hvf (Reps.stay (stay_later Rk s2 (mem_none nD)) (Reps.stay stk rv0)) (set_live (Nat.lt_of_lt_of_le hn hle))
                exact comp_fin R1 (s2.unpark en) R3 nD hD (Reps.stay st3 r) (q.later s1)
            · simp only [hl, decide_false, Bool.false_eq_true, if_false] at q; exact q.elim
end
end Pm
end
section
set_option Elab.async false
set_option linter.all false
set_option maxHeartbeats 2000000
/-! Pm12: expressions, whole. -/
namespace Pm
open PySem PySem.Spec PyProof.Rows L2

section
variable {G : Gx} {F : Cf} {D : Ds} {X : Cx} {N : List Str} {sc : Scope}

theorem pe_bad {e : Expr} {m : Lo → M U} (h : ∀ τ S, m τ S = .bad) : PE X e (rdE G m) := ⟨fun pins s σ H Q I q => by
  obtain ⟨B, ρ, S, τ, R, L, q⟩ := q
  rw [h] at q
  exact q.elim⟩
theorem pt_bad {e : Expr} {m : Lo → M Bool} (h : ∀ τ S, m τ S = .bad) : PT X e (rdT G m) := ⟨fun pins s σ H Q I q => by
  obtain ⟨B, ρ, S, τ, R, L, q⟩ := q
  rw [h] at q
  exact q.elim⟩
theorem pw_bad {e : Expr} {m : Lo → M Bool} (h : ∀ τ S, m τ S = .bad) : PW X e (rdT G m) := ⟨fun wh pins s σ H Q I q => by
  obtain ⟨B, ρ, S, τ, R, L, q⟩ := q
  rw [h] at q
  exact q.elim⟩
theorem rd_var {i : Nat} : ∀ σ H Q, rdE G (evE F (.var i)) σ H Q → tVar i σ H Q := by
  rintro σ H Q ⟨B, ρ, S, τ, R, L, q⟩
  simp only [evE] at q
  cases e : τ[i]? with
  | none => simp only [e] at q; exact q.elim
  | some o =>
    cases o with
    | none => simp only [e] at q; exact q.elim
    | some u =>
      simp only [e] at q
      obtain ⟨v, e1, r⟩ := L.at_ i u e
      exact ⟨v, e1, q v ρ H .refl R r⟩
theorem bind_ok {α β : Type} {m : M α} {f : α → M β} {S S' : Sto} {a : α} (h : m S = .ok a S') : M.bind m f S = f a S' := by unfold M.bind; rw [h]
theorem rd_cst {w : W} {v : V} (h : ∀ Z H, Rep G Z H w v) : ∀ σ H Q, rdE G (evE F (.cst w)) σ H Q → tC v σ H Q := by
  rintro σ H Q ⟨B, ρ, S, τ, R, L, q⟩
  simp only [evE] at q
  exact q.okU R (h _ _)
theorem cst_snd {w : W} {c : Const} {j : Nat} {p : Pos} (h : constB w c = true) : PE X (.Constant c j p) (rdE G (evE F (.cst w))) := by
  cases w <;> cases c <;> simp only [constB, Bool.false_eq_true] at h
  · exact PE.imp pe_non (rd_cst fun _ _ => by simp [Rep])
  · have := eq_of_beq h; subst this
    exact PE.imp pe_bl (rd_cst fun _ _ => by simp [Rep])
  · have := of_decide_eq_true h; subst this
    exact PE.imp pe_int (rd_cst fun _ _ => by simp [Rep])
  · have := of_decide_eq_true h; subst this
    exact PE.imp pe_str (rd_cst fun _ _ => by simp [Rep])
theorem glob_snd (x0 : XP G F D X N sc) {x : String} {p : Pos} (hg : gloB sc (Str.ofString x) = true) (hx : D.globs.contains x = true) (hd : (Str.ofString x == ("__debug__" : Str)) = false) : PE X (.Name (Str.ofString x) p) (rdE G (evE F (.glob x))) := by
  cases e : F.glob x with
  | none => exact pe_bad fun τ S => by simp only [evE, e]; rfl
  | some w =>
    obtain ⟨u, v, h1, h2, h3⟩ := x0.glb x hx w e
    refine PE.imp (pe_glob (gl_of x0.toXOk hg) h1 h2 hd) ?_
    rintro σ H Q ⟨B, ρ, S, τ, R, L, q⟩
    simp only [evE, e] at q
    exact q.okU R (h3 _ _)
theorem rd_fld (x0 : XP G F D X N sc) {o : Ex} {f : Str} (hf : D.flds.contains f = true) : ∀ σ H Q, rdE G (evE F (.fld o f)) σ H Q → tFld X.K (rdE G (evE F o)) f σ H Q := by
  rintro σ H Q ⟨B, ρ, S, τ, R, L, q⟩
  simp only [evE] at q
  refine ⟨B, ρ, S, τ, R, L, (FinG.bind (Rp := RpU G) q).imp ?_⟩
  rintro x H1 ⟨ρ1, S1, u, e1, R1, s1, r1, q1⟩
  simp only [fldU, M.bind] at q1
  cases e2 : rdU u S1 with
  | err _ _ _ => simp only [e2] at q1; exact q1.elim
  | bad => simp only [e2] at q1; exact q1.elim
  | ok w S2 =>
    obtain ⟨rfl, p⟩ := rdU_ok R1 r1 e2
    simp only [e2] at q1
    cases w with
    | obj C fs =>
      simp only at q1
      cases e3 : fs.lookup f with
      | none => simp only [e3] at q1; exact q1.elim
      | some y =>
        simp only [e3] at q1
        simp only [Rep0] at p
        obtain ⟨a, Ca, dx, vfs, rfl, c, h, r⟩ := p
        obtain ⟨v, l, rv⟩ := r.get e3
        have o := x0.own _ _ c
        exact ⟨a, Ca, dx, vfs, v, rfl, h, o.cl, o.na f hf, l, q1.okU R1 rv⟩
    | _ => exact q1.elim
theorem chain3_bool {p q q3 : Pr} {a b c d : Ex} {o2 : CmpOp} (h2 : copOf q3 = some o2) : ∀ τ S u S', evE F (.chain3 p q q3 a b c d) τ S = .ok u S' → ∃ b, u = .p (.bl b) := by
  intro τ S u S' h
  simp only [evE, M.bind] at h
  cases e1 : evE F a τ S with
  | err _ _ _ => simp only [e1, reduceCtorEq] at h
  | bad => simp only [e1, reduceCtorEq] at h
  | ok x S1 =>
    simp only [e1] at h
    cases e2 : evE F b τ S1 with
    | err _ _ _ => simp only [e2, reduceCtorEq] at h
    | bad => simp only [e2, reduceCtorEq] at h
    | ok y S2 =>
      simp only [e2] at h
      cases e3 : prE F p [x, y] S2 with
      | err _ _ _ => simp only [e3, reduceCtorEq] at h
      | bad => simp only [e3, reduceCtorEq] at h
      | ok t S3 =>
        simp only [e3] at h
        split at h
        · rename_i k
          cases k with
          | false =>
            simp only [Bool.false_eq_true, if_false, Res.ok.injEq] at h
            exact ⟨false, h.1.symm⟩
          | true =>
            simp only [if_true, M.bind] at h
            cases e4 : evE F c τ S3 with
            | err _ _ _ => simp only [e4, reduceCtorEq] at h
            | bad => simp only [e4, reduceCtorEq] at h
            | ok z S4 =>
              simp only [e4] at h
              cases e5 : prE F q [y, z] S4 with
              | err _ _ _ => simp only [e5, reduceCtorEq] at h
              | bad => simp only [e5, reduceCtorEq] at h
              | ok t5 S5 =>
                simp only [e5] at h
                split at h
                · rename_i k2
                  cases k2 with
                  | false =>
                    simp only [Bool.false_eq_true, if_false, Res.ok.injEq] at h
                    exact ⟨false, h.1.symm⟩
                  | true =>
                    simp only [if_true, M.bind] at h
                    cases e6 : evE F d τ S5 with
                    | err _ _ _ => simp only [e6, reduceCtorEq] at h
                    | bad => simp only [e6, reduceCtorEq] at h
                    | ok z6 S6 =>
                      simp only [e6] at h
                      exact cmp_bool (.inl h2) h
                · cases h
        · cases h
theorem chain_bool {p q : Pr} {a b c : Ex} {o2 : CmpOp} (h2 : copOf q = some o2) : ∀ τ S u S', evE F (.chain p q a b c) τ S = .ok u S' → ∃ b, u = .p (.bl b) := by
  intro τ S u S' h
  simp only [evE, M.bind] at h
  cases e1 : evE F a τ S with
  | err _ _ _ => simp only [e1, reduceCtorEq] at h
  | bad => simp only [e1, reduceCtorEq] at h
  | ok x S1 =>
    simp only [e1] at h
    cases e2 : evE F b τ S1 with
    | err _ _ _ => simp only [e2, reduceCtorEq] at h
    | bad => simp only [e2, reduceCtorEq] at h
    | ok y S2 =>
      simp only [e2] at h
      cases e3 : prE F p [x, y] S2 with
      | err _ _ _ => simp only [e3, reduceCtorEq] at h
      | bad => simp only [e3, reduceCtorEq] at h
      | ok t S3 =>
        simp only [e3] at h
        split at h
        · rename_i k
          cases k with
          | false =>
            simp only [Bool.false_eq_true, if_false, Res.ok.injEq] at h
            exact ⟨false, h.1.symm⟩
          | true =>
            simp only [if_true] at h
            cases e4 : evE F c τ S3 with
            | err _ _ _ => simp only [M.bind, e4, reduceCtorEq] at h
            | bad => simp only [M.bind, e4, reduceCtorEq] at h
            | ok z S4 =>
              simp only [M.bind, e4] at h
              exact cmp_bool (.inl h2) h
        · cases h
theorem pt_plain {e : Expr} {ex : Ex} (h : PE X e (rdE G (evE F ex))) (hp : plainT e = true) (kk : X.K = G.K) (he : evT F ex = fun τ => M.bind (evE F ex τ) truU) : PT X e (rdT G (evT F ex)) := by
  rw [he]
  refine PT.imp (pt_truth h (isTrue_plainT hp)) ?_
  rw [kk]
  exact rd_truth
theorem ptB_pr (x0 : XP G F D X N sc) {p : Pr} {e : Expr} {es : List Expr} {as : List Ex} (h : argsB D sc p e = some es) (a : AllPE G F X as es) : PT X e (rdT G (evT F (.pr p as))) := by
  have he : evT F (.pr p as) = fun τ => M.bind (evE F (.pr p as) τ) truU := by funext τ; simp only [evT, evE]
  have gen : plainT e = true → PT X e (rdT G (evT F (.pr p as))) := fun hp => pt_plain (prB_snd x0 h a) hp x0.kk he
  have h0 := h
  unfold argsB at h
  split at h
  · exact gen rfl
  · rw [he]
    split at h
    · rename_i o ho
      split at h <;> cases h
      rename_i hq
      simp only [Bool.and_eq_true, Bool.not_eq_true'] at hq
      obtain rfl := eqCop_eq hq.1
      obtain ⟨a1, a2, rfl, h1, h2⟩ := a.two
      obtain ⟨r, c1, c2⟩ := cop_bin x0 ho
      refine PT.imp (pt_cmpR c1 h1 h2 (marks_of hq.2)) (rd_test ?_ ?_)
      · rw [ev_pr2]
        exact rd_op c2
      · intro τ S u S' e
        simp only [evE, M.bind] at e
        split at e
        · exact cmp_bool (.inl ho) e
        · cases e
        · cases e
    · have hb : ∀ p, (p = .isn ∨ p = .notn ∨ ∃ b, p = .isb b) → ∀ τ S u S', evE F (.pr p as) τ S = .ok u S' → ∃ b, u = .p (.bl b) := by
        intro p hp τ S u S' e
        simp only [evE, M.bind] at e
        split at e
        · exact cmp_bool (o := .Eq) (.inr hp) e
        · cases e
        · cases e
      split at h
      · cases h
        obtain ⟨a1, rfl, h1⟩ := a.one
        refine PT.imp (pt_cmp (pc_isN h1)) (rd_test ?_ (hb _ (.inl rfl)))
        rw [ev_pr1]
        exact rd_un (op1_isn (b := true))
      · cases h
        obtain ⟨a1, rfl, h1⟩ := a.one
        refine PT.imp (pt_cmp (pc_notN h1)) (rd_test ?_ (hb _ (.inr (.inl rfl))))
        rw [ev_pr1]
        exact rd_un (op1_isn (b := false))
      · split at h <;> cases h
        rename_i hb0
        have hb' := eq_of_beq hb0
        subst hb'
        obtain ⟨a1, rfl, h1⟩ := a.one
        refine PT.imp (pt_cmpR op_isBl h1 pe_bl (nomark _)) (rd_test ?_ (hb _ (.inr (.inr ⟨_, rfl⟩))))
        rw [ev_pr1]
        exact rd_un op1_isb
      · cases h
  · exact gen rfl
  · exact gen rfl
  · exact gen rfl
  · exact gen rfl
  · exact gen rfl
  · cases h

theorem pt_pr (x0 : XP G F D X N sc) {p : Pr} {e : Expr} {es : List Expr} {as : List Ex} (h : argsOf D sc p e = some es) (a : AllPE G F X as es) : PT X e (rdT G (evT F (.pr p as))) := by
  unfold argsOf at h
  split at h
  · cases h
    rename_i hb
    exact ptB_pr x0 hb a
  · split at h
    · cases h
      rename_i hb
      exact pt_plain (prX_snd x0 hb a) (argsX_plain hb) x0.kk (by funext τ; simp only [evT, evE])
    · exact pt_plain (prY_snd x0 h a) (argsY_plain h) x0.kk (by funext τ; simp only [evT, evE])

/-! ### calls -/
theorem kw_len : ∀ {kws : List Keyword}, kws.all (fun k => k.arg.isSome) = true → (kws.filterMap (·.arg)).length = kws.length
  | [], _ => rfl
  | ⟨some n, e, p⟩ :: kws, h => by
    simp only [List.all_cons, Bool.and_eq_true] at h
    simp [kw_len h.2]
  | ⟨none, e, p⟩ :: kws, h => by simp at h
theorem ev_args {a1 a2 : List Ex} {τ : Lo} {g : List U → M U} : M.bind (evEs F (a1 ++ a2) τ) g = M.bind (evEs F a1 τ) fun us => M.bind (evEs F a2 τ) fun vs => g (us ++ vs) := by
  rw [evEs_app]
  simp only [bind_assoc', pure_bind']
theorem call_snd (x0 : XP G F D X N sc) {f : String} {bd : List (Sum Nat Dfl)} {es : List Ex} {x : Str} {p pos : Pos} {args : List Expr} {kws : List Keyword} (h1 : D.fname f = some x) (h2 : gloB sc x = true) (h3 : (x == ("__debug__" : Str)) = false)
    (h4 : kws.all (fun k => k.arg.isSome) = true) (h5 : D.shp.contains (f, args.length, kws.filterMap (·.arg), bd) = true) (h6 : args.all (fun e => !isStar e) = true) (a : AllPE G F X es (args ++ kws.map (·.value))) :
    PE X (.Call (.Name x p) args kws pos) (rdE G (evE F (.call f bd es))) := by
  obtain ⟨a1, a2, rfl, al, ar, hl⟩ := a.split
  obtain ⟨fa, g1, g2, fd, ps, k, g, gV, Fk, hr, hb, hbind⟩ := x0.fcall f x _ _ bd h1 h5
  have ar' := ar.len
  refine PE.imp (pe_callG (t := rdA G (evEs F a1)) (tk := rdA G (evEs F a2)) x0.gd Fk hr (gl_of x0.toXOk h2) g1 g2 hb (pa_of al h6) ?_ (pk_of ar) h6 h4 rfl h3) ?_
  · rintro rfl σ H Q q
    cases a1 with
    | nil => simp only [evEs] at q; exact rd_nil _ _ _ q
    | cons _ _ => simp at hl
  · rintro σ H Q ⟨B, ρ, S, τ, R, L, q⟩
    simp only [evE] at q
    rw [ev_args] at q
    refine ⟨B, ρ, S, τ, R, L, (FinG.bind (Rp := RpUs G) q).imp ?_⟩
    rintro vs H1 ⟨ρ1, S1, us, e1, R1, s1, r1, q1⟩
    refine ⟨B, ρ1, S1, τ, R1, L.stp s1 R, (FinG.bind (Rp := RpUs G) q1).imp ?_⟩
    rintro vz H2 ⟨ρ2, S2, zs, e2, R2, s2, r2, q2⟩
    have l1 : us.length = args.length := (evEs_len e1).trans hl
    refine ⟨by rw [r1.length, l1], by rw [r2.length, evEs_len e2, kw_len h4, ar']; simp, ?_⟩
    cases eb : bindA bd (us ++ zs) with
    | none => simp only [eb] at q2; exact q2.elim
    | some us2 =>
      simp only [eb] at q2
      exact ⟨B, ρ2, S2, us2, R2, hbind B ρ2 S2 H2 us zs vs vz us2 l1 (RepUs.stp s2 R1 r1) r2 eb, q2⟩
theorem isIns_ok {B : List Addr} {ρ : Nat → Addr} {S S' : Sto} {H : Hp} {u : U} {v : V} {C : String} {m : Str} (R : RelS G B ρ S H) (r : RepU G B ρ S H u v) (e : isIns C m u S = .ok () S') : S' = S ∧ ∃ a Ca dx fs, v = .ref a ∧ G.cA C = some Ca ∧ H a = some (.ins Ca dx fs) ∧ fs.lookup m = none := by
  cases u with
  | p w =>
    cases w <;> simp only [isIns, badM, reduceCtorEq] at e
    split at e <;> cases e
    rename_i h
    obtain ⟨rfl, h⟩ := h
    simp only [RepU, Rep] at r
    obtain ⟨a, Ca, dx, vfs, rfl, c, ha, z, rf⟩ := r
    exact ⟨rfl, a, Ca, dx, vfs, rfl, c, ha, rf.none_of h⟩
  | loc n =>
    simp only [isIns] at e
    split at e
    · rename_i C' fs en
      split at e <;> cases e
      rename_i h
      obtain ⟨rfl, h⟩ := h
      obtain rfl := r.2
      obtain ⟨Ca, dx, vfs, c, ha, rf⟩ := R.at_ n _ en
      exact ⟨rfl, _, Ca, dx, vfs, rfl, c, ha, rf.none_of h⟩
    · cases e
theorem mcall_snd (x0 : XP G F D X N sc) {C f : String} {m : Str} {o : Ex} {bd : List (Sum Nat Dfl)} {es : List Ex} {eo : Expr} {apos pos : Pos} {args : List Expr} {kws : List Keyword} (h0 : (apos.endLine == pos.line) = true) (hn : args.length + kws.length < 25) (h1 : D.meth f = some (C, m)) (h2 : notSuper eo = true)
    (h4 : kws.all (fun k => k.arg.isSome) = true) (h5 : D.shp.contains (f, args.length, kws.filterMap (·.arg), bd) = true) (h6 : args.all (fun e => !isStar e) = true) (ho : PE X eo (rdE G (evE F o))) (a : AllPE G F X es (args ++ kws.map (·.value))) :
    PE X (.Call (.Attribute eo m apos) args kws pos) (rdE G (evE F (.mcall C m f o bd es))) := by
  obtain ⟨a1, a2, rfl, al, ar, hl⟩ := a.split
  obtain ⟨fa, Ca, c, hme, fd, ps, k, g, gV, Fk, hr, hb, hbind⟩ := x0.fmeth f C m _ _ bd h1 h5
  have ar' := ar.len
  refine PE.imp (pe_methG (t := rdA G (evEs F a1)) (tk := rdA G (evEs F a2)) ho (x0.own _ _ c).cl hme x0.gd Fk hr hb (pa_of al h6) ?_ (pk_of ar) h6 h4 rfl h2 h0 hn) ?_
  · rintro rfl σ H Q q
    cases a1 with
    | nil => simp only [evEs] at q; exact rd_nil _ _ _ q
    | cons _ _ => simp at hl
  · rintro σ H Q ⟨B, ρ, S, τ, R, L, q⟩
    simp only [evE] at q
    refine ⟨B, ρ, S, τ, R, L, (FinG.bind (Rp := RpU G) q).imp ?_⟩
    rintro x H0 ⟨ρ0, S0, u, e0, R0, s0, r0, q0⟩
    cases ei : isIns C m u S0 with
    | err _ _ _ => simp only [M.bind, ei] at q0; exact q0.elim
    | bad => simp only [M.bind, ei] at q0; exact q0.elim
    | ok _ S0' =>
      obtain ⟨rfl, ad, Ca', dx, fs, rfl, c', ha, hf⟩ := isIns_ok R0 r0 ei
      rw [c] at c'; cases c'
      rw [bind_ok ei, ev_args] at q0
      refine ⟨ad, dx, fs, rfl, ha, hf, B, ρ0, S0', τ, R0, L.stp s0 R, (FinG.bind (Rp := RpUs G) q0).imp ?_⟩
      rintro vs H1 ⟨ρ1, S1, us, e1, R1, s1, r1, q1⟩
      refine ⟨B, ρ1, S1, τ, R1, (L.stp s0 R).stp s1 R0, (FinG.bind (Rp := RpUs G) q1).imp ?_⟩
      rintro vz H2 ⟨ρ2, S2, zs, e2, R2, s2, r2, q2⟩
      have l1 : us.length = args.length := (evEs_len e1).trans hl
      refine ⟨by simp [r1.length, l1], by rw [r2.length, evEs_len e2, kw_len h4, ar']; simp, ?_⟩
      cases eb : bindA bd (u :: (us ++ zs)) with
      | none => simp only [eb] at q2; exact q2.elim
      | some us2 =>
        simp only [eb] at q2
        exact ⟨B, ρ2, S2, us2, R2, hbind B ρ2 S2 H2 (u :: us) zs (.ref ad :: vs) vz us2 (by simp [l1]) ⟨_, _, rfl, RepU.stp (s1.trans s2) R0 r0, RepUs.stp s2 R1 r1⟩ r2 eb, q2⟩
theorem new_snd (x0 : XP G F D X N sc) {C : String} {bd : List (Sum Nat Dfl)} {es : List Ex} {x : Str} {p pos : Pos} {args : List Expr} {kws : List Keyword} (h1 : D.cname C = some x) (h2 : gloB sc x = true) (h3 : (x == ("__debug__" : Str)) = false)
    (h4 : kws.all (fun k => k.arg.isSome) = true) (h5 : D.shp.contains (C, args.length, kws.filterMap (·.arg), bd) = true) (h6 : args.all (fun e => !isStar e) = true) (a : AllPE G F X es (args ++ kws.map (·.value))) :
    PE X (.Call (.Name x p) args kws pos) (rdE G (evE F (.new C bd es))) := by
  obtain ⟨a1, a2, rfl, al, ar, hl⟩ := a.split
  obtain ⟨fa, Ca, c, g1, mk, fd, ps, k, g, gV, Fk, hr, hb, hbind⟩ := x0.fnew C x _ _ bd h1 h5
  have ar' := ar.len
  refine PE.imp (pe_makeG (t := rdA G (evEs F a1)) (tk := rdA G (evEs F a2)) mk x0.gd Fk hr (gl_of x0.toXOk h2) g1 hb (pa_of al h6) ?_ (pk_of ar) h6 h4 rfl h3) ?_
  · rintro rfl
    refine ⟨rfl, fun σ H Q q => ?_⟩
    cases a1 with
    | nil => simp only [evEs] at q; exact rd_nil _ _ _ q
    | cons _ _ => simp at hl
  · rintro σ H Q ⟨B, ρ, S, τ, R, L, q⟩
    simp only [evE] at q
    rw [ev_args] at q
    refine ⟨B, ρ, S, τ, R, L, (FinG.bind (Rp := RpUs G) q).imp ?_⟩
    rintro vs H1 ⟨ρ1, S1, us, e1, R1, s1, r1, q1⟩
    refine ⟨B, ρ1, S1, τ, R1, L.stp s1 R, (FinG.bind (Rp := RpUs G) q1).imp ?_⟩
    rintro vz H2 ⟨ρ2, S2, zs, e2, R2, s2, r2, q2⟩
    have l1 : us.length = args.length := (evEs_len e1).trans hl
    refine ⟨by rw [r1.length, l1], by rw [r2.length, evEs_len e2, kw_len h4, ar']; simp, ?_⟩
    cases eb : bindA bd (us ++ zs) with
    | none => simp only [eb] at q2; exact q2.elim
    | some us2 =>
      simp only [eb, newO] at q2
      intro y dx ny nd hne
      have k0 : ∀ a o, H2 a = some o → upd H2 dx (.own y) a = some o := grow_upd nd
      have R3 := R2.grow k0
      have ny' : upd H2 dx (.own y) y = none := by rw [upd_ne (Ne.symm hne)]; exact ny
      have R4 : RelS G B (fun k => if k = S2.length then y else ρ2 k) (S2 ++ [some (.ins C [])]) (upd (upd H2 dx (.own y)) y (.ins Ca dx [])) := R3.new ny' ⟨Ca, dx, [], c, upd_same, by simp [RepF]⟩
      have s3 : Stp ρ2 S2 H2 ρ2 S2 (upd H2 dx (.own y)) := Stp.grow R2 k0
      have s4 : Stp ρ2 S2 (upd H2 dx (.own y)) (fun k => if k = S2.length then y else ρ2 k) (S2 ++ [some (.ins C [])]) (upd (upd H2 dx (.own y)) y (.ins Ca dx [])) := Stp.new R3 ny'
      have s34 := s3.trans s4
      refine ⟨B, _, _, .loc S2.length :: us2, R4, ?_, ?_⟩
      · exact hbind B _ _ _ (.loc S2.length) (.ref y) us zs vs vz us2 l1 ⟨by simp, by simp⟩ (RepUs.stp s34 R2 (RepUs.stp s2 R1 r1)) (RepUs.stp s34 R2 r2) eb
      · cases ec : F.call (C ++ ".__init__") (.loc S2.length :: us2) (S2 ++ [some (.ins C [])]) with
        | err _ _ _ => simp only [ec] at q2; exact q2.elim
        | bad => simp only [ec] at q2; exact q2.elim
        | ok u5 S5 =>
          simp only [ec] at q2
          cases u5 with
          | loc _ => exact q2.elim
          | p w5 =>
            cases w5 with
            | non =>
              simp only at q2
              cases e5 : S5[S2.length]? with
              | none => simp only [e5] at q2; exact q2.elim
              | some o5 =>
                cases o5 with
                | none => simp only [e5] at q2; exact q2.elim
                | some o5 =>
                  simp only [e5] at q2
                  intro b ρ5 H5 s5 R5 r5
                  simp only [RepU, Rep] at r5
                  refine ⟨r5, ?_⟩
                  have hx : ρ5 S2.length = y := by
                    obtain ⟨_, q⟩ := s5.loc S2.length (by simp) o5 e5
                    rw [q]; simp
                  obtain ⟨R6, st6⟩ := R5.takeN S2.length
                  have rz : Rep G (Zf B ρ5 (S5.take S2.length)) H5 o5.frz (.ref (ρ5 S2.length)) := RepM.frz ((R5.at_ _ _ e5).stay st6 rfl) (R5.take_z (Nat.le_refl _) e5)
                  rw [hx] at rz
                  exact q2 (.ref y) ρ5 H5 (s34.trans s5).takeN R6 rz
            | _ => exact q2.elim

/-! ### all expressions -/
theorem rd_andT {a b : Ex} : ∀ σ H Q, rdT G (evT F (.and a b)) σ H Q → tAnd (rdT G (evT F a)) (rdT G (evT F b)) σ H Q := by
  rintro σ H Q ⟨B, ρ, S, τ, R, L, q⟩
  simp only [evT] at q
  refine ⟨B, ρ, S, τ, R, L, (FinG.bind (Rp := RpB) q).imp ?_⟩
  rintro x H1 ⟨ρ1, S1, u, e1, R1, s1, rfl, q1⟩
  cases u with
  | true => exact ⟨B, ρ1, S1, τ, R1, L.stp s1 R, q1⟩
  | false => exact q1 false ρ1 H1 .refl R1 rfl
theorem rd_orT {a b : Ex} : ∀ σ H Q, rdT G (evT F (.or a b)) σ H Q → tOr (rdT G (evT F a)) (rdT G (evT F b)) σ H Q := by
  rintro σ H Q ⟨B, ρ, S, τ, R, L, q⟩
  simp only [evT] at q
  refine ⟨B, ρ, S, τ, R, L, (FinG.bind (Rp := RpB) q).imp ?_⟩
  rintro x H1 ⟨ρ1, S1, u, e1, R1, s1, rfl, q1⟩
  cases u with
  | false => exact ⟨B, ρ1, S1, τ, R1, L.stp s1 R, q1⟩
  | true => exact q1 true ρ1 H1 .refl R1 rfl
theorem rd_notT {a : Ex} : ∀ σ H Q, rdT G (evT F (.not a)) σ H Q → tNot (rdT G (evT F a)) σ H Q := by
  rintro σ H Q ⟨B, ρ, S, τ, R, L, q⟩
  simp only [evT] at q
  refine ⟨B, ρ, S, τ, R, L, (FinG.bind (Rp := RpB) q).imp ?_⟩
  rintro x H1 ⟨ρ1, S1, u, e1, R1, s1, rfl, q1⟩
  exact q1 _ ρ1 H1 .refl R1 rfl
theorem PTs.imp {ifs : List Expr} {t t' : TT} (h : PTs X ifs t) (k : ∀ σ H Q, t' σ H Q → t σ H Q) : PTs X ifs t' := ⟨fun pins s σ H Q I q => h.run pins s σ H Q I (k _ _ _ q)⟩
theorem rd_c1 {c : Ex} : ∀ σ H Q, rdT G (evC F [c]) σ H Q → rdT G (evT F c) σ H Q := by
  rintro σ H Q ⟨B, ρ, S, τ, R, L, q⟩
  simp only [evC] at q
  refine ⟨B, ρ, S, τ, R, L, (FinG.bind (Rp := RpB) q).imp ?_⟩
  rintro x H1 ⟨ρ1, S1, u, e1, R1, s1, rfl, q1⟩
  cases u with
  | true => exact q1 true ρ1 H1 .refl R1 rfl
  | false => exact q1 false ρ1 H1 .refl R1 rfl
theorem fold_plain {i : Expr} {env : Env} (h : isSetE i = false) : ∀ x, foldedSetIterable i env x = pure x := fun x => by
  cases i <;> first | rfl | cases h
def NB (e : Expr) : Prop := ∀ op es p, e ≠ .BoolOp op es p
theorem pw_of {e : Expr} {t : TT} (h : NB e) : (∃ op es p, e = .BoolOp op es p) → PW X e t := fun ⟨op, es, p, q⟩ => (h op es p q).elim
theorem comp_snd (x0 : XP G F D X N sc) {mm : Bool} {own : List (Str × Nat)} {tg : Tg} {ip : Option Pr} {its cond : List Ex} {elt : Ex} {e t i : Expr} {ifs : List Expr} {as : List Expr} {scope : Scope} {pos : Pos} (h1 : blkC N sc scope own = true) (h2 : isSetE i = false) (h3 : chkT N scope tg t = true)
    (h4 : ∀ k ∈ tgS tg, k ∈ own.map (·.2)) (h5 : itArgs D sc ip t i = some as) (a : AllPE G F X its as)
    (hc : ∀ {X' : Cx}, XP G F D X' N scope → PTs X' ifs (rdT G (evC F cond))) (he : ∀ {X' : Cx}, XP G F D X' N scope → PE X' e (rdE G (evE F elt))) :
    PE X (.ListComp e [⟨t, i, ifs, 0⟩] scope pos) (rdE G (evE F (.comp mm own tg ip its cond elt))) :=
  PE.imp (pe_lc x0.calm (by rw [x0.nn]; exact x0.nd) (pi_it x0 h5 a) (x0.toXOk.blkOk h1) (fun s H C cl fp => tg_snd (x0.blk (s := s) (H := H) (C := C) (cl := cl) (fp := fp)).toXOk h3) (fun s H C cl fp => hc x0.blk) (fun s H C cl fp => he x0.blk) (fold_plain h2)) (rd_comp h4)
mutual
theorem sndE : ∀ (ex : Ex) {X : Cx} {sc : Scope} {e : Expr}, XP G F D X N sc → chk D N sc ex e = true → PE X e (rdE G (evE F ex))
  | .var i, X, sc, e, x0, h => by
    cases e <;> simp only [chk, Bool.false_eq_true] at h
    simp only [Bool.and_eq_true, decide_eq_true_eq, Bool.not_eq_true'] at h
    exact PE.imp (pe_var (by rw [x0.nn]; exact h.1.1.1) (x0.toXOk.vis h.1.1.2) h.1.2 h.2) rd_var
  | .cst w, X, sc, e, x0, h => by
    cases e <;> simp only [chk, Bool.false_eq_true] at h
    exact cst_snd h
  | .glob x, X, sc, e, x0, h => by
    cases e <;> simp only [chk, Bool.false_eq_true] at h
    simp only [Bool.and_eq_true, decide_eq_true_eq, Bool.not_eq_true'] at h
    obtain ⟨⟨⟨rfl, h1⟩, h2⟩, h3⟩ := h
    exact glob_snd x0 h1 h2 h3
  | .pr p es, X, sc, e, x0, h => by
    simp only [chk] at h
    split at h
    · rename_i as ha
      exact pr_snd x0 ha (sndEs es x0 h)
    · cases h
  | .and a b, X, sc, e, x0, h => by
    cases e with
    | BoolOp op es pos =>
      match op, es, h with
      | .And, x :: y :: r, h =>
        simp only [chk, Bool.and_eq_true] at h
        obtain ⟨h1, h2⟩ := h
        cases r with
        | nil => exact PE.imp (pe_and (sndE a x0 h1) (pe_one (sndE b x0 h2))) rd_and
        | cons z r => exact PE.imp (pe_and (sndE a x0 h1) (sndE b x0 h2)) rd_and
      | .And, [], h => simp [chk] at h
      | .And, [_], h => simp [chk] at h
      | .Or, _, h => simp [chk] at h
    | _ => simp [chk] at h
  | .or a b, X, sc, e, x0, h => by
    cases e with
    | BoolOp op es pos =>
      match op, es, h with
      | .Or, x :: y :: r, h =>
        simp only [chk, Bool.and_eq_true] at h
        obtain ⟨h1, h2⟩ := h
        cases r with
        | nil => exact PE.imp (pe_or (sndE a x0 h1) (pe_one (sndE b x0 h2))) rd_or
        | cons z r => exact PE.imp (pe_or (sndE a x0 h1) (sndE b x0 h2)) rd_or
      | .Or, [], h => simp [chk] at h
      | .Or, [_], h => simp [chk] at h
      | .And, _, h => simp [chk] at h
    | _ => simp [chk] at h
  | .not a, X, sc, e, x0, h => by
    cases e with
    | UnaryOp op x pos =>
      cases op <;> simp only [chk, Bool.false_eq_true] at h
      refine PE.imp (pe_notT (sndE a x0 h)) ?_
      rw [x0.kk]
      exact rd_not
    | _ => simp [chk] at h
  | .ite c a b, X, sc, e, x0, h => by
    cases e with
    | IfExp x y z pos =>
      simp only [chk, Bool.and_eq_true] at h
      exact PE.imp (pe_ifExp (sndT c x0 h.1.1).1 (sndE a x0 h.1.2) (sndE b x0 h.2)) rd_ite
    | _ => simp [chk] at h
  | .chain3 p q q3 a b c d, X, sc, e, x0, h => by
    cases e with
    | Compare x ops ys pos =>
      match ops, ys, h with
      | [o1, o2, o3], [y, z, v], h =>
        simp only [chk] at h
        split at h
        · rename_i p1 q1 r1 hp hq hr
          simp only [Bool.and_eq_true, Bool.not_eq_true'] at h
          obtain ⟨⟨⟨⟨⟨⟨⟨h1, h2⟩, h3⟩, h4⟩, h5⟩, h6⟩, h7⟩, h8⟩ := h
          obtain rfl := eqCop_eq h1
          obtain rfl := eqCop_eq h2
          obtain rfl := eqCop_eq h3
          obtain ⟨r, c1, c2⟩ := cop_bin x0 hp
          obtain ⟨r', d1, d2⟩ := cop_bin x0 hq
          obtain ⟨r2, k1, k2⟩ := cop_bin x0 hr
          exact PE.imp (pe_chain3 c1 d1 k1 (sndE a x0 h5) (sndE b x0 h6) (sndE c x0 h7) (sndE d x0 h8) (marks3 h4)) (rd_chain3 c2 d2 k2)
        · cases h
      | [], _, h => simp [chk] at h
      | [_], _, h => simp [chk] at h
      | [_, _], _, h => simp [chk] at h
      | _ :: _ :: _ :: _ :: _, _, h => simp [chk] at h
      | [_, _, _], [], h => simp [chk] at h
      | [_, _, _], [_], h => simp [chk] at h
      | [_, _, _], [_, _], h => simp [chk] at h
      | [_, _, _], _ :: _ :: _ :: _ :: _, h => simp [chk] at h
    | _ => simp [chk] at h
  | .chain p q a b c, X, sc, e, x0, h => by
    cases e with
    | Compare x ops ys pos =>
      match ops, ys, h with
      | [o1, o2], [y, z], h =>
        simp only [chk] at h
        split at h
        · rename_i p1 q1 hp hq
          simp only [Bool.and_eq_true, Bool.not_eq_true'] at h
          obtain ⟨⟨⟨⟨⟨⟨h1, h2⟩, h3⟩, h4⟩, h5⟩, h6⟩, h7⟩ := h
          obtain rfl := eqCop_eq h1
          obtain rfl := eqCop_eq h2
          obtain ⟨r, c1, c2⟩ := cop_bin x0 hp
          obtain ⟨r', d1, d2⟩ := cop_bin x0 hq
          exact PE.imp (pe_chain c1 d1 (sndE a x0 h5) (sndE b x0 h6) (sndE c x0 h7) (marks2 h4)) (rd_chain c2 d2)
        · cases h
      | [], _, h => simp [chk] at h
      | [_], _, h => simp [chk] at h
      | _ :: _ :: _ :: _, _, h => simp [chk] at h
      | [_, _], [], h => simp [chk] at h
      | [_, _], [_], h => simp [chk] at h
      | [_, _], _ :: _ :: _ :: _, h => simp [chk] at h
    | _ => simp [chk] at h
  | .comp m own tg ip its cond elt, X, sc, e, x0, h => by
    cases e with
    | ListComp e gs scope pos =>
      match gs with
      | [⟨t, i, ifs, n⟩] =>
        by_cases hn : n = 0
        · subst hn
          simp only [chk, Bool.and_eq_true, Bool.not_eq_true', decide_eq_true_eq] at h
          obtain ⟨⟨⟨⟨⟨⟨⟨h1, h2⟩, h3⟩, h4⟩, h5⟩, h6⟩, h7⟩, h8⟩ := h
          split at h6
          · rename_i as ha
            exact comp_snd x0 h1 h2 h3 h5 ha (sndEs its x0 h6) (fun x1 => sndC cond x1 h7 h4) fun x1 => sndE elt x1 h8
          · cases h6
        · exfalso
          unfold chk at h
          split at h <;> first | (cases h; done) | skip
          all_goals simp_all
      | [] => simp [chk] at h
      | _ :: _ :: _ => simp [chk] at h
    | _ => simp [chk] at h
  | .call f bd es, X, sc, e, x0, h => by
    cases e with
    | Call fe args kws pos =>
      cases fe with
      | Name x p =>
        simp only [chk, Bool.and_eq_true, Bool.not_eq_true', decide_eq_true_eq] at h
        obtain ⟨⟨⟨⟨⟨⟨h1, h2⟩, h3⟩, h4⟩, h5⟩, h6⟩, h7⟩ := h
        exact call_snd x0 h1 h2 h3 h4 h5 h6 (sndEs es x0 h7)
      | _ => simp [chk] at h
    | _ => simp [chk] at h
  | .meth p o es, X, sc, e, x0, h => by
    simp only [chk] at h
    split at h
    · rename_i eo as ha
      simp only [Bool.and_eq_true] at h
      exact meth_snd x0 ha (sndE o x0 h.1) (sndEs es x0 h.2)
    · cases h
  | .mcall C m f o bd es, X, sc, e, x0, h => by
    cases e with
    | Call fe args kws pos =>
      cases fe with
      | Attribute eo m' apos =>
        simp only [chk, Bool.and_eq_true, decide_eq_true_eq] at h
        obtain ⟨⟨⟨⟨⟨⟨⟨⟨⟨h1, h2⟩, h3⟩, h4⟩, h5⟩, h6⟩, h7⟩, h8⟩, h9⟩, h10⟩ := h
        subst h3
        exact mcall_snd x0 h1 h2 h4 h5 h6 h7 h8 (sndE o x0 h9) (sndEs es x0 h10)
      | _ => simp [chk] at h
    | _ => simp [chk] at h
  | .new C bd es, X, sc, e, x0, h => by
    cases e with
    | Call fe args kws pos =>
      cases fe with
      | Name x p =>
        simp only [chk, Bool.and_eq_true, Bool.not_eq_true', decide_eq_true_eq] at h
        obtain ⟨⟨⟨⟨⟨⟨h1, h2⟩, h3⟩, h4⟩, h5⟩, h6⟩, h7⟩ := h
        exact new_snd x0 h1 h2 h3 h4 h5 h6 (sndEs es x0 h7)
      | _ => simp [chk] at h
    | _ => simp [chk] at h
  | .fld o f, X, sc, e, x0, h => by
    cases e with
    | Attribute eo f' pos =>
      simp only [chk, Bool.and_eq_true, decide_eq_true_eq] at h
      obtain ⟨⟨⟨rfl, h1⟩, h2⟩, h3⟩ := h
      exact PE.imp (pe_fld (sndE o x0 h3) (base_ok h2)) (rd_fld x0 h1)
    | _ => simp [chk] at h
  | .nev, X, sc, e, x0, h => pe_bad fun _ _ => rfl
theorem sndEs : ∀ (as : List Ex) {X : Cx} {sc : Scope} {es : List Expr}, XP G F D X N sc → chks D N sc as es = true → AllPE G F X as es
  | [], X, sc, [], _, _ => trivial
  | a :: as, X, sc, e :: es, x0, h => by
    simp only [chks, Bool.and_eq_true] at h
    exact ⟨sndE a x0 h.1, sndEs as x0 h.2⟩
  | [], X, sc, _ :: _, _, h => by simp [chks] at h
  | _ :: _, X, sc, [], _, h => by simp [chks] at h
theorem sndC : ∀ (cs : List Ex) {X : Cx} {sc : Scope} {ifs : List Expr}, XP G F D X N sc → chks D N sc cs ifs = true → ifs.length ≤ 1 → PTs X ifs (rdT G (evC F cs))
  | [], X, sc, [], _, _, _ => PTs.imp pts_nil fun σ H Q ⟨B, ρ, S, τ, R, L, q⟩ => q true ρ H .refl R rfl
  | [c], X, sc, [e], x0, h, _ => by
    simp only [chks, Bool.and_eq_true] at h
    exact PTs.imp (pts_one (sndT c x0 h.1).1) rd_c1
  | [], X, sc, _ :: _, _, h, _ => by simp [chks] at h
  | _ :: _, X, sc, [], _, h, _ => by simp [chks] at h
  | _ :: _, X, sc, _ :: _ :: _, _, _, h => by simp at h
  | _ :: _ :: _, X, sc, [_], _, h, _ => by simp [chks] at h
theorem sndT : ∀ (ex : Ex) {X : Cx} {sc : Scope} {e : Expr}, XP G F D X N sc → chk D N sc ex e = true → PT X e (rdT G (evT F ex)) ∧ ((∃ op es p, e = .BoolOp op es p) → PW X e (rdT G (evT F ex)))
  | .var i, X, sc, e, x0, h => by
    cases e with
    | Name x pos =>
      simp only [chk, Bool.and_eq_true, decide_eq_true_eq, Bool.not_eq_true'] at h
      exact ⟨pt_plain (PE.imp (pe_var (by rw [x0.nn]; exact h.1.1.1) (x0.toXOk.vis h.1.1.2) h.1.2 h.2) rd_var) rfl x0.kk (by funext τ; simp only [evT, evE]), pw_of fun _ _ _ e => by cases e⟩
    | _ => simp [chk] at h
  | .pr p es, X, sc, e, x0, h => by
    simp only [chk] at h
    split at h
    · rename_i as ha
      refine ⟨pt_pr x0 ha (sndEs es x0 h), pw_of fun op es' p' e => ?_⟩
      subst e
      simp [argsOf, argsB, argsX, argsY] at ha
    · cases h
  | .and a b, X, sc, e, x0, h => by
    cases e with
    | BoolOp op es pos =>
      match op, es, h with
      | .And, x :: y :: r, h =>
        simp only [chk, Bool.and_eq_true] at h
        obtain ⟨h1, h2⟩ := h
        have key : PW X (.BoolOp .And (x :: y :: r) pos) (rdT G (evT F (.and a b))) := by
          cases r with
          | nil => exact PW.imp (pw_and (sndT a x0 h1).1 (pw_and1 (sndT b x0 h2).1)) rd_andT
          | cons z r => exact PW.imp (pw_and (sndT a x0 h1).1 ((sndT b x0 h2).2 ⟨_, _, _, rfl⟩)) rd_andT
        exact ⟨key.pt, fun _ => key⟩
      | .And, [], h => simp [chk] at h
      | .And, [_], h => simp [chk] at h
      | .Or, _, h => simp [chk] at h
    | _ => simp [chk] at h
  | .or a b, X, sc, e, x0, h => by
    cases e with
    | BoolOp op es pos =>
      match op, es, h with
      | .Or, x :: y :: r, h =>
        simp only [chk, Bool.and_eq_true] at h
        obtain ⟨h1, h2⟩ := h
        have key : PW X (.BoolOp .Or (x :: y :: r) pos) (rdT G (evT F (.or a b))) := by
          cases r with
          | nil => exact PW.imp (pw_or (sndT a x0 h1).1 (pw_or1 (sndT b x0 h2).1)) rd_orT
          | cons z r => exact PW.imp (pw_or (sndT a x0 h1).1 ((sndT b x0 h2).2 ⟨_, _, _, rfl⟩)) rd_orT
        exact ⟨key.pt, fun _ => key⟩
      | .Or, [], h => simp [chk] at h
      | .Or, [_], h => simp [chk] at h
      | .And, _, h => simp [chk] at h
    | _ => simp [chk] at h
  | .not a, X, sc, e, x0, h => by
    cases e with
    | UnaryOp op x pos =>
      cases op <;> simp only [chk, Bool.false_eq_true] at h
      exact ⟨PT.imp (pt_not (sndT a x0 h).1) rd_notT, pw_of fun _ _ _ e => by cases e⟩
    | _ => simp [chk] at h
  | .chain3 p q q3 a b c d, X, sc, e, x0, h => by
    cases e with
    | Compare x ops ys pos =>
      match ops, ys, h with
      | [o1, o2, o3], [y, z, v], h =>
        simp only [chk] at h
        split at h
        · rename_i p1 q1 r1 hp hq hr
          simp only [Bool.and_eq_true, Bool.not_eq_true'] at h
          obtain ⟨⟨⟨⟨⟨⟨⟨h1, h2⟩, h3⟩, h4⟩, h5⟩, h6⟩, h7⟩, h8⟩ := h
          obtain rfl := eqCop_eq h1
          obtain rfl := eqCop_eq h2
          obtain rfl := eqCop_eq h3
          obtain ⟨r, c1, c2⟩ := cop_bin x0 hp
          obtain ⟨r', d1, d2⟩ := cop_bin x0 hq
          obtain ⟨r2, k1, k2⟩ := cop_bin x0 hr
          refine ⟨?_, pw_of fun _ _ _ e => by cases e⟩
          have he : evT F (.chain3 p q q3 a b c d) = fun τ => M.bind (evE F (.chain3 p q q3 a b c d) τ) truU := by funext τ; simp only [evT, evE]
          rw [he]
          exact PT.imp (pt_chain3 c1 d1 k1 (sndE a x0 h5) (sndE b x0 h6) (sndE c x0 h7) (sndE d x0 h8) (marks3 h4)) (rd_test (rd_chain3 c2 d2 k2) (chain3_bool hr))
        · cases h
      | [], _, h => simp [chk] at h
      | [_], _, h => simp [chk] at h
      | [_, _], _, h => simp [chk] at h
      | _ :: _ :: _ :: _ :: _, _, h => simp [chk] at h
      | [_, _, _], [], h => simp [chk] at h
      | [_, _, _], [_], h => simp [chk] at h
      | [_, _, _], [_, _], h => simp [chk] at h
      | [_, _, _], _ :: _ :: _ :: _ :: _, h => simp [chk] at h
    | _ => simp [chk] at h
  | .chain p q a b c, X, sc, e, x0, h => by
    cases e with
    | Compare x ops ys pos =>
      match ops, ys, h with
      | [o1, o2], [y, z], h =>
        simp only [chk] at h
        split at h
        · rename_i p1 q1 hp hq
          simp only [Bool.and_eq_true, Bool.not_eq_true'] at h
          obtain ⟨⟨⟨⟨⟨⟨h1, h2⟩, h3⟩, h4⟩, h5⟩, h6⟩, h7⟩ := h
          obtain rfl := eqCop_eq h1
          obtain rfl := eqCop_eq h2
          obtain ⟨r, c1, c2⟩ := cop_bin x0 hp
          obtain ⟨r', d1, d2⟩ := cop_bin x0 hq
          refine ⟨?_, pw_of fun _ _ _ e => by cases e⟩
          have he : evT F (.chain p q a b c) = fun τ => M.bind (evE F (.chain p q a b c) τ) truU := by funext τ; simp only [evT, evE]
          rw [he]
          exact PT.imp (pt_chain c1 d1 (sndE a x0 h5) (sndE b x0 h6) (sndE c x0 h7) (marks2 h4)) (rd_test (rd_chain c2 d2) (chain_bool hq))
        · cases h
      | [], _, h => simp [chk] at h
      | [_], _, h => simp [chk] at h
      | _ :: _ :: _ :: _, _, h => simp [chk] at h
      | [_, _], [], h => simp [chk] at h
      | [_, _], [_], h => simp [chk] at h
      | [_, _], _ :: _ :: _ :: _, h => simp [chk] at h
    | _ => simp [chk] at h
  | .call f bd es, X, sc, e, x0, h => by
    cases e with
    | Call fe args kws pos =>
      cases fe with
      | Name x p =>
        simp only [chk, Bool.and_eq_true, Bool.not_eq_true', decide_eq_true_eq] at h
        obtain ⟨⟨⟨⟨⟨⟨h1, h2⟩, h3⟩, h4⟩, h5⟩, h6⟩, h7⟩ := h
        exact ⟨pt_plain (call_snd x0 h1 h2 h3 h4 h5 h6 (sndEs es x0 h7)) rfl x0.kk (by funext τ; simp only [evT, evE]), pw_of fun _ _ _ e => by cases e⟩
      | _ => simp [chk] at h
    | _ => simp [chk] at h
  | .meth p o es, X, sc, e, x0, h => by
    simp only [chk] at h
    split at h
    · rename_i eo as ha
      simp only [Bool.and_eq_true] at h
      have pe := meth_snd x0 ha (sndE o x0 h.1) (sndEs es x0 h.2)
      cases e with
      | Call _ _ _ _ => exact ⟨pt_plain pe rfl x0.kk (by funext τ; simp only [evT, evE]), pw_of fun _ _ _ e => by cases e⟩
      | _ => simp [methOf] at ha
    · cases h
  | .mcall C m f o bd es, X, sc, e, x0, h => by
    cases e with
    | Call fe args kws pos =>
      cases fe with
      | Attribute eo m' apos =>
        simp only [chk, Bool.and_eq_true, decide_eq_true_eq] at h
        obtain ⟨⟨⟨⟨⟨⟨⟨⟨⟨h1, h2⟩, h3⟩, h4⟩, h5⟩, h6⟩, h7⟩, h8⟩, h9⟩, h10⟩ := h
        subst h3
        exact ⟨pt_plain (mcall_snd x0 h1 h2 h4 h5 h6 h7 h8 (sndE o x0 h9) (sndEs es x0 h10)) rfl x0.kk (by funext τ; simp only [evT, evE]), pw_of fun _ _ _ e => by cases e⟩
      | _ => simp [chk] at h
    | _ => simp [chk] at h
  | .fld o f, X, sc, e, x0, h => by
    cases e with
    | Attribute eo f' pos =>
      simp only [chk, Bool.and_eq_true, decide_eq_true_eq] at h
      obtain ⟨⟨⟨rfl, h1⟩, h2⟩, h3⟩ := h
      exact ⟨pt_plain (PE.imp (pe_fld (sndE o x0 h3) (base_ok h2)) (rd_fld x0 h1)) rfl x0.kk (by funext τ; simp only [evT, evE]), pw_of fun _ _ _ e => by cases e⟩
    | _ => simp [chk] at h
  | .cst w, X, sc, e, x0, h => by
    cases e with
    | Constant c j p =>
      simp only [chk] at h
      exact ⟨pt_plain (cst_snd h) rfl x0.kk (by funext τ; simp only [evT, evE]), pw_of fun _ _ _ e => by cases e⟩
    | _ => simp [chk] at h
  | .glob _, X, sc, e, x0, h => ⟨pt_bad fun _ _ => rfl, fun _ => pw_bad fun _ _ => rfl⟩
  | .ite _ _ _, X, sc, e, x0, h => ⟨pt_bad fun _ _ => rfl, fun _ => pw_bad fun _ _ => rfl⟩
  | .comp _ _ _ _ _ _ _, X, sc, e, x0, h => ⟨pt_bad fun _ _ => rfl, fun _ => pw_bad fun _ _ => rfl⟩
  | .new _ _ _, X, sc, e, x0, h => ⟨pt_bad fun _ _ => rfl, fun _ => pw_bad fun _ _ => rfl⟩
  | .nev, X, sc, e, x0, h => ⟨pt_bad fun _ _ => rfl, fun _ => pw_bad fun _ _ => rfl⟩
end
end
end Pm
end
section
set_option Elab.async false
set_option linter.all false
set_option maxHeartbeats 2000000
/-! Pm13: statements: the check, the readings. -/
namespace Pm
open PySem PySem.Spec PyProof.Rows L2

def isComp : Expr → Bool
  | .ListComp _ _ _ _ => true
  | .SetComp _ _ _ _ => true
  | .DictComp _ _ _ _ _ => true
  | _ => false
def isTupE : Expr → Bool
  | .Tuple _ _ _ => true
  | _ => false
/-- the names of a swapped store -/
def swNs (sc : Scope) (ts : List Expr) : List Str :=
  let line := (ts.head?.map (·.pos.line)).getD 0
  ts.filterMap fun
    | .Name id pos => if sc.names.lookup id == some .local && pos.line == line then some id else none
    | _ => none
def swQ (sc : Scope) (ts vs : List Expr) : Option (Option (List Str)) :=
  if !(ts.length == 2 || ts.length == 3) || vs.length != ts.length then some none
  else if vs.any fun | .Starred .. => true | _ => false then some none
  else if (swNs sc ts).length != ts.length || (swNs sc ts).eraseDups.length != (swNs sc ts).length then some none
  else if vs.all (foldedForSure 8) then some none
  else if vs.all (constantsAlone 8) then none
  else some (some (swNs sc ts))
theorem swQ_ok {sc : Scope} {ts vs : List Expr} {k k2 : Nat} {p p2 : Pos} {env : Env} {r : Option (List Str)} (hs : env.scope = sc) (hk : sc.kind = .function) (h : swQ sc ts vs = some r) : swappedStores [.Tuple ts k p] (.Tuple vs k2 p2) env = pure r := by
  have hb : env.blockKind = .function := by unfold Env.blockKind; rw [hs, hk]; rfl
  have en : ∀ id, env.kindOf id = sc.names.lookup id := fun id => by unfold Env.kindOf; rw [hs]
  unfold swQ at h
  unfold swappedStores
  simp only [hb, en]
  split at h
  · rename_i c
    cases h
    rw [if_pos (by simp only [c, Bool.true_or])]
  · rename_i c
    rw [if_neg (by simpa using c)]
    split at h
    · rename_i c2
      cases h
      exact if_pos c2
    · rename_i c2
      refine (if_neg c2).trans ?_
      split at h
      · rename_i c3
        cases h
        exact if_pos c3
      · rename_i c3
        refine (if_neg c3).trans ?_
        split at h
        · rename_i c4
          cases h
          exact if_pos c4
        · rename_i c4
          refine (if_neg c4).trans ?_
          split at h
          · cases h
          · rename_i c5
            cases h
            exact if_neg c5
/-- a list comprehension that is stored as it is made -/
def isLocB (sc : Scope) (y : Str) : Bool := match sc.names.lookup y with
  | some .local => true
  | _ => false
def lcSwap (sc : Scope) (y : Str) (py : Pos) (s : Scope) (p : Pos) : Bool := isLocB sc y && py.line == p.line && !(s.names.any fun (n, k) => n == y && (k == .local || k == .cell))
def augOf : Pr → Option Operator
  | .add => some .Add | .sub => some .Sub | .mul => some .Mult | .fdiv => some .FloorDiv
  | _ => none
def isExComp : Ex → Bool
  | .comp _ _ _ _ _ _ _ => true
  | _ => false
def docFree : List Stmt → List Stmt
  | .Expr (.Constant (.str _) _ _) _ :: r => r
  | r => r
def chkAsg (D : Ds) (N : List Str) (sc : Scope) (tg : Tg) (e : Ex) (ts : List Expr) (x : Expr) : Bool := match tg, ts with
  | .nm i, [.Name y _] => decide (N[i]? = some y) && locB sc y && chk D N sc e x && (!isComp x || isExComp e)
  | .tp ts, [.Tuple tes _ _] => chkTs N sc ts tes && chk D N sc e x && (match x with
      | .Tuple vs _ _ => decide (swQ sc tes vs = some none)
      | _ => true)
  | _, _ => false
def chkPar (D : Ds) (N : List Str) (sc : Scope) (is : List Nat) (es : List Ex) (ts : List Expr) (x : Expr) : Bool := match ts, x with
  | [.Tuple tes _ _], .Tuple vs _ _ => chkTs N sc (is.map .nm) tes && chks D N sc es vs && vs.all (fun e => !isStar e) && decide (vs.length ≤ 1000) && (match is, tes with
      | [i, j], [.Name x _, .Name y _] => decide (swQ sc tes vs = some none) || (decide (swQ sc tes vs = some (some [x, y])) && decide (i ≠ j) && decide (sc.names.lookup x = some .local) && decide (sc.names.lookup y = some .local))
      | [i, j, l], [.Name x _, .Name y _, .Name z _] => decide (swQ sc tes vs = some none) || (decide (swQ sc tes vs = some (some [x, y, z])) && decide (i ≠ j) && decide (i ≠ l) && decide (j ≠ l) && decide (sc.names.lookup x = some .local) && decide (sc.names.lookup y = some .local) && decide (sc.names.lookup z = some .local))
      | _, _ => decide (swQ sc tes vs = some none))
  | _, _ => false
def chkSetix (D : Ds) (N : List Str) (sc : Scope) (o i e : Ex) (ts : List Expr) (x : Expr) : Bool := match ts with
  | [.Subscript eo ei _] => !isSlice ei && chk D N sc o eo && chk D N sc i ei && chk D N sc e x
  | _ => false
def chkSetix2 (D : Ds) (N : List Str) (sc : Scope) (o i : Ex) (j : Nat) (e : Ex) (ts : List Expr) (x : Expr) : Bool := match ts with
  | [.Tuple [.Subscript eo ei _, .Name y _] _ _] => !isTupE x && !isSlice ei && decide (N[j]? = some y) && locB sc y && chk D N sc o eo && chk D N sc i ei && chk D N sc e x
  | _ => false
def chkSetf (D : Ds) (N : List Str) (sc : Scope) (o : Ex) (f : Str) (e : Ex) (ts : List Expr) (x : Expr) : Bool := match ts with
  | [.Attribute eo f' _] => decide (f = f') && D.flds.contains f && chk D N sc o eo && chk D N sc e x
  | _ => false
def chkAug (D : Ds) (N : List Str) (sc : Scope) (i : Nat) (p : Pr) (e : Ex) (t : Expr) (op : Operator) (x : Expr) : Bool := match t with
  | .Name y _ => decide (N[i]? = some y) && locB sc y && chk D N sc e x && (match augOf p with
      | some o => eqOp o op
      | none => false)
  | _ => false
mutual
def chkS (D : Ds) (N : List Str) (sc : Scope) : Stx → Stmt → Bool
  | .expr e, .Expr x _ => chk D N sc e x && !isComp x
  | .asg tg e, .Assign ts x _ => chkAsg D N sc tg e ts x
  | .par is es, .Assign ts x _ => chkPar D N sc is es ts x
  | .setix o i e, .Assign ts x _ => chkSetix D N sc o i e ts x
  | .setix2 o i j e, .Assign ts x _ => chkSetix2 D N sc o i j e ts x
  | .setf o f e, .Assign ts x _ => chkSetf D N sc o f e ts x
  | .aug i p e, .AugAssign t op x _ => chkAug D N sc i p e t op x
  | .ret e, .Return x _ => (match x with
      | some x => chk D N sc e x
      | none => false)
  | .retN, .Return x _ => x.isNone
  | .ifs c a b, .If x p q _ => chk D N sc c x && chkB D N sc a p && chkB D N sc b q
  | .for_ tg ip its b, .For t i body orelse _ => orelse.isEmpty && !isSetE i && chkT N sc tg t && (match itArgs D sc ip t i with
      | some as => chks D N sc its as
      | none => false) && chkB D N sc b body
  | .whl c b, .While x body orelse _ => orelse.isEmpty && chk D N sc c x && chkB D N sc b body
  | .brk, .Break _ => true
  | .cnt, .Continue _ => true
  | .pass, .Pass _ => true
  | .raise _ _ _, _ => true
  | .thru b, .Try body hs orelse fin _ => !hs.isEmpty && orelse.isEmpty && fin.isEmpty && chkB D N sc b body
  | .nev, _ => true
  | _, _ => false
def chkB (D : Ds) (N : List Str) (sc : Scope) : List Stx → List Stmt → Bool
  | [], [] => true
  | a :: as, e :: es => chkS D N sc a e && chkB D N sc as es
  | _, _ => false
end

/-! ### readings -/
def FinS (G : Gx) (B : List Addr) (D : Ends) (ρ : Nat → Addr) (S : Sto) (H : Hp) : Res Fl → Prop
  | .ok (.nx τ') S' => ∀ σ' ρ' H', Stp ρ S H ρ' S' H' → RelS G B ρ' S' H' → RelL G B ρ' S' H' τ' σ' → D.nx σ' H'
  | .ok (.rt u) S' => ∀ v ρ' H', Stp ρ S H ρ' S' H' → RelS G B ρ' S' H' → RepU G B ρ' S' H' u v → D.rt v H'
  | .ok (.bk τ') S' => ∀ σ' ρ' H', Stp ρ S H ρ' S' H' → RelS G B ρ' S' H' → RelL G B ρ' S' H' τ' σ' → D.bk σ' H'
  | .ok (.ct τ') S' => ∀ σ' ρ' H', Stp ρ S H ρ' S' H' → RelS G B ρ' S' H' → RelL G B ρ' S' H' τ' σ' → D.ct σ' H'
  | _ => False
def rdS (G : Gx) (m : Lo → M Fl) : TS := fun D σ H => ∃ B ρ S τ, RelS G B ρ S H ∧ RelL G B ρ S H τ σ ∧ FinS G B D ρ S H (m τ S)
section
variable {G : Gx} {F : Cf} {D : Ds} {X : Cx} {N : List Str} {sc : Scope} {B : List Addr} {ρ ρ' ρ1 : Nat → Addr} {S S' S1 : Sto} {H H' H1 : Hp} {E : Ends}
theorem FinS.later {r : Res Fl} (h : FinS G B E ρ S H r) (s : Stp ρ S H ρ' S' H') : FinS G B E ρ' S' H' r := by
  cases r with
  | err _ _ _ => exact h
  | bad => exact h
  | ok fl S2 =>
    cases fl with
    | nx τ => exact fun σ ρ2 H2 t R P => h σ ρ2 H2 (s.trans t) R P
    | rt τ => exact fun σ ρ2 H2 t R P => h σ ρ2 H2 (s.trans t) R P
    | bk τ => exact fun σ ρ2 H2 t R P => h σ ρ2 H2 (s.trans t) R P
    | ct τ => exact fun σ ρ2 H2 t R P => h σ ρ2 H2 (s.trans t) R P
    | ex _ _ _ => exact h
theorem FinS.inS {m : M U} {τ : Lo} {f : U → M Fl} (h : FinS G B E ρ S H (inS m τ f S)) : FinG G B (RpU G) (fun b H1 => ∃ ρ1 S1 a, m S = .ok a S1 ∧ RelS G B ρ1 S1 H1 ∧ Stp ρ S H ρ1 S1 H1 ∧ RepU G B ρ1 S1 H1 a b ∧ FinS G B E ρ1 S1 H1 (f a S1)) ρ S H (m S) := by
  unfold Pm.inS at h
  cases e : m S with
  | ok a S1 =>
    rw [e] at h
    exact fun b ρ1 H1 t R P => ⟨ρ1, S1, a, rfl, R, t, P, h.later t⟩
  | err _ _ _ => rw [e] at h; exact h.elim
  | bad => rw [e] at h; exact h.elim
theorem FinS.inSb {m : M Bool} {τ : Lo} {f : Bool → M Fl} (h : FinS G B E ρ S H (inSb m τ f S)) : FinG G B RpB (fun b H1 => ∃ ρ1 S1 a, m S = .ok a S1 ∧ RelS G B ρ1 S1 H1 ∧ Stp ρ S H ρ1 S1 H1 ∧ a = b ∧ FinS G B E ρ1 S1 H1 (f a S1)) ρ S H (m S) := by
  unfold Pm.inSb at h
  cases e : m S with
  | ok a S1 =>
    rw [e] at h
    exact fun b ρ1 H1 t R P => ⟨ρ1, S1, a, rfl, R, t, P, h.later t⟩
  | err _ _ _ => rw [e] at h; exact h.elim
  | bad => rw [e] at h; exact h.elim
theorem FinS.inSs {m : M (List U)} {τ : Lo} {f : List U → M Fl} (h : FinS G B E ρ S H (inSs m τ f S)) : FinG G B (RpUs G) (fun b H1 => ∃ ρ1 S1 a, m S = .ok a S1 ∧ RelS G B ρ1 S1 H1 ∧ Stp ρ S H ρ1 S1 H1 ∧ RepUs G B ρ1 S1 H1 a b ∧ FinS G B E ρ1 S1 H1 (f a S1)) ρ S H (m S) := by
  unfold Pm.inSs at h
  cases e : m S with
  | ok a S1 =>
    rw [e] at h
    exact fun b ρ1 H1 t R P => ⟨ρ1, S1, a, rfl, R, t, P, h.later t⟩
  | err _ _ _ => rw [e] at h; exact h.elim
  | bad => rw [e] at h; exact h.elim
theorem FinS.nx {τ : Lo} {σ : L2.St} (h : FinS G B E ρ S H (nxt τ S)) (R : RelS G B ρ S H) (L : RelL G B ρ S H τ σ) : E.nx σ H := h σ ρ H .refl R L
theorem rds_bad {st : Stmt} {m : Lo → M Fl} (h : ∀ B E ρ S H τ, ¬ FinS G B E ρ S H (m τ S)) : PS X st (rdS G m) := ⟨fun pins s σ H E I q => by
  obtain ⟨B, ρ, S, τ, R, L, q⟩ := q
  exact (h _ _ _ _ _ _ q).elim⟩
/-- a place is written -/
theorem wr_at {n : Nat} {o o' : MO} {ho : HO} (R : RelS G B ρ S H) (e : S[n]? = some (some o)) (hM : ∀ Z', Stay G (Zf B ρ S) Z' H (upd H (ρ n) ho) → RepM G Z' (upd H (ρ n) ho) o' (ρ n)) :
    Stp ρ S H ρ (S.set n (some o')) (upd H (ρ n) ho) ∧ RelS G B ρ (S.set n (some o')) (upd H (ρ n) ho) := by
  have hn : n < S.length := (List.getElem?_eq_some_iff.mp e).1
  have live := set_live (S := S) (n := n) (x := o') hn
  have mu : ∀ a, Mu ρ (S.set n (some o')) a → Mu ρ S a := fun a ⟨k, u, h, q⟩ => by
    rcases live k u h with ⟨rfl, _⟩ | ⟨_, h2⟩
    · exact ⟨k, _, e, q⟩
    · exact ⟨k, _, h2, q⟩
  have s : Stp ρ S H ρ (S.set n (some o')) (upd H (ρ n) ho) := ⟨by simp, fun k hk => ⟨fun u h => by
      rcases live k u h with ⟨rfl, _⟩ | ⟨_, h2⟩
      · exact ⟨_, e⟩
      · exact ⟨_, h2⟩, rfl⟩, fun a u h m => ⟨by rw [upd_ne fun z => m ⟨n, _, e, z.symm⟩]; exact h, fun m' => m (mu a m')⟩⟩
  refine ⟨s, ⟨fun k u h => ?_, fun k m o1 o2 h1 h2 q => ?_, fun b hb => ?_, fun k u h hb => ?_⟩⟩
  · rcases live k u h with ⟨rfl, rfl⟩ | ⟨hk, h2⟩
    · exact hM _ (s.stay R)
    · exact (R.at_ k u h2).stay (s.stay R) (upd_ne fun z => hk (R.inj k n _ _ h2 e z))
  · have l1 : ∃ o, S[k]? = some (some o) := by
      rcases live k o1 h1 with ⟨rfl, _⟩ | ⟨_, h2⟩
      · exact ⟨_, e⟩
      · exact ⟨_, h2⟩
    have l2 : ∃ o, S[m]? = some (some o) := by
      rcases live m o2 h2 with ⟨rfl, _⟩ | ⟨_, h2⟩
      · exact ⟨_, e⟩
      · exact ⟨_, h2⟩
    obtain ⟨_, l1⟩ := l1
    obtain ⟨_, l2⟩ := l2
    exact R.inj k m _ _ l1 l2 q
  · obtain ⟨u, h⟩ := R.bs b hb
    by_cases hb2 : b = ρ n
    · exact ⟨_, by rw [hb2]; exact upd_same⟩
    · exact ⟨u, by rw [upd_ne hb2]; exact h⟩
  · rcases live k u h with ⟨rfl, _⟩ | ⟨_, h2⟩
    · exact R.nb k _ e hb
    · exact R.nb k _ h2 hb

/-! ### small statements -/
theorem rs_expr {e : Ex} : ∀ E σ H, rdS G (evS F (.expr e)) E σ H → tDrop (rdE G (evE F e)) E σ H := by
  rintro E σ H ⟨B, ρ, S, τ, R, L, q⟩
  simp only [evS] at q
  refine ⟨B, ρ, S, τ, R, L, q.inS.imp ?_⟩
  rintro x H1 ⟨ρ1, S1, u, e1, R1, s1, r1, q1⟩
  exact q1.nx R1 (L.stp s1 R)
theorem rs_ret {e : Ex} : ∀ E σ H, rdS G (evS F (.ret e)) E σ H → tRet (rdE G (evE F e)) E σ H := by
  rintro E σ H ⟨B, ρ, S, τ, R, L, q⟩
  simp only [evS] at q
  refine ⟨B, ρ, S, τ, R, L, q.inS.imp ?_⟩
  rintro x H1 ⟨ρ1, S1, u, e1, R1, s1, r1, q1⟩
  exact q1 x ρ1 H1 .refl R1 r1
theorem rs_retN : ∀ E σ H, rdS G (evS F .retN) E σ H → tRetN E σ H := by
  rintro E σ H ⟨B, ρ, S, τ, R, L, q⟩
  simp only [evS] at q
  exact q .non ρ H .refl R (by simp [RepU, Rep])
theorem rs_ifs {c : Ex} {a b : List Stx} : ∀ E σ H, rdS G (evS F (.ifs c a b)) E σ H → tIfS (rdT G (evT F c)) (rdS G (evB F a)) (rdS G (evB F b)) E σ H := by
  rintro E σ H ⟨B, ρ, S, τ, R, L, q⟩
  simp only [evS] at q
  refine ⟨B, ρ, S, τ, R, L, q.inSb.imp ?_⟩
  rintro x H1 ⟨ρ1, S1, u, e1, R1, s1, rfl, q1⟩
  cases u with
  | true => exact ⟨B, ρ1, S1, τ, R1, L.stp s1 R, q1⟩
  | false => exact ⟨B, ρ1, S1, τ, R1, L.stp s1 R, q1⟩
theorem rs_asg {i : Nat} {e : Ex} : ∀ E σ H, rdS G (evS F (.asg (.nm i) e)) E σ H → tAsg (rdE G (evE F e)) (gName i) E σ H := by
  rintro E σ H ⟨B, ρ, S, τ, R, L, q⟩
  simp only [evS] at q
  refine ⟨B, ρ, S, τ, R, L, q.inS.imp ?_⟩
  rintro x H1 ⟨ρ1, S1, u, e1, R1, s1, r1, q1⟩
  exact q1.nx R1 ((L.stp s1 R).set r1)
theorem tg_zero {t : Tg} {ts : List Tg} (ht : t = .tp ts) {w : W} {v : V} {τ τ1 : Lo} {σ : L2.St} (e : bindTg t w τ = some τ1) (L : RelL G B ρ S H τ σ) (r : Rep0 G (Zf B ρ S) H w v) :
    ∃ σ1, RelL G B ρ S H τ1 σ1 ∧ ∀ Q : L2.St → Hp → Prop, Q σ1 H → tgR G t v σ H Q := by
  subst ht
  cases w <;> simp only [bindTg, reduceCtorEq] at e
  · obtain ⟨a, vs, rfl, q, rs⟩ := rep0_tup r
    obtain ⟨σ1, L1, hw, hl, k⟩ := tgs_bind e L rs
    refine ⟨σ1, L1, fun Q q1 => ?_⟩
    simp only [tgR]
    exact ⟨a, vs, rfl, .inl q, by rw [rs.length]; exact hl, k Q q1⟩
  · obtain ⟨a, vs, rfl, q, rs⟩ := rep0_lst r
    obtain ⟨σ1, L1, hw, hl, k⟩ := tgs_bind e L rs
    refine ⟨σ1, L1, fun Q q1 => ?_⟩
    simp only [tgR]
    exact ⟨a, vs, rfl, .inr (.inl q), by rw [rs.length]; exact hl, k Q q1⟩
theorem rs_asgT {ts : List Tg} {e : Ex} : ∀ E σ H, rdS G (evS F (.asg (.tp ts) e)) E σ H → tAsg (rdE G (evE F e)) (tgR G (.tp ts)) E σ H := by
  rintro E σ H ⟨B, ρ, S, τ, R, L, q⟩
  simp only [evS] at q
  refine ⟨B, ρ, S, τ, R, L, q.inS.imp ?_⟩
  rintro x H1 ⟨ρ1, S1, u, e1, R1, s1, r1, q1⟩
  simp only [M.bind] at q1
  cases e2 : rdU u S1 with
  | err _ _ _ => simp only [e2] at q1; exact q1.elim
  | bad => simp only [e2] at q1; exact q1.elim
  | ok w S2 =>
    obtain ⟨rfl, p⟩ := rdU_ok R1 r1 e2
    simp only [e2] at q1
    cases e3 : bindTg (.tp ts) w τ with
    | none => simp only [e3] at q1; exact q1.elim
    | some τ1 =>
      simp only [e3] at q1
      obtain ⟨σ1, L1, k⟩ := tg_zero rfl e3 (L.stp s1 R) p
      exact k _ (q1.nx R1 L1)
theorem sets_bind : ∀ {is : List Nat} {us : List U} {vs : List V} {τ τ1 : Lo} {σ : L2.St}, setsL is us τ = some τ1 → RelL G B ρ S H τ σ → RepUs G B ρ S H us vs →
    ∃ σ1, RelL G B ρ S H τ1 σ1 ∧ us.length = is.length ∧ ∀ Q : L2.St → Hp → Prop, Q σ1 H → tgsR G (is.map .nm) vs σ H Q
  | [], us, vs, τ, τ1, σ, e, L, r => by
    cases us <;> simp only [setsL, Option.some.injEq, reduceCtorEq] at e
    subst e
    simp only [RepUs] at r
    subst r
    refine ⟨σ, L, rfl, fun Q q => ?_⟩
    simp only [List.map_nil, tgsR]
    exact ⟨rfl, q⟩
  | i :: is, us, vs, τ, τ1, σ, e, L, r => by
    cases us with
    | nil => simp [setsL] at e
    | cons u us =>
      simp only [setsL] at e
      obtain ⟨v, r', rfl, h1, h2⟩ := r
      obtain ⟨σ1, L1, hl, k⟩ := sets_bind e (L.set h1) h2
      refine ⟨σ1, L1, by simp [hl], fun Q q => ?_⟩
      simp only [List.map_cons, tgsR, tgR]
      exact ⟨v, r', rfl, k Q q⟩
theorem rs_parT {is : List Nat} {es : List Ex} (hl : es.length ≤ 1000) : ∀ E σ H, rdS G (evS F (.par is es)) E σ H → tAsg (tTup (rdA G (evEs F es))) (tgR G (.tp (is.map .nm))) E σ H := by
  rintro E σ H ⟨B, ρ, S, τ, R, L, q⟩
  simp only [evS] at q
  refine ⟨B, ρ, S, τ, R, L, q.inSs.imp ?_⟩
  rintro xs H1 ⟨ρ1, S1, us, e1, R1, s1, r1, q1⟩
  refine ⟨by rw [r1.length, evEs_len e1]; exact line1000 hl, fun p n => ?_⟩
  cases e3 : setsL is us τ with
  | none => simp only [e3] at q1; exact q1.elim
  | some τ1 =>
    simp only [e3] at q1
    have sg : Stp ρ1 S1 H1 ρ1 S1 (upd H1 p (.tup xs)) := Stp.grow R1 (grow_upd n)
    have Rg := R1.grow (H' := upd H1 p (.tup xs)) (grow_upd n)
    obtain ⟨σ1, L1, hl, k⟩ := sets_bind e3 ((L.stp s1 R).stp sg R1) (RepUs.stp sg R1 r1)
    simp only [tgR]
    exact ⟨p, xs, rfl, .inl (.inl (.inl upd_same)), by rw [r1.length]; simpa using hl, k _ ((q1.later sg).nx Rg L1)⟩
theorem rs_par2 {i j : Nat} {es : List Ex} : ∀ E σ H, rdS G (evS F (.par [i, j] es)) E σ H → tPar i j (rdA G (evEs F es)) E σ H := by
  rintro E σ H ⟨B, ρ, S, τ, R, L, q⟩
  simp only [evS] at q
  refine ⟨B, ρ, S, τ, R, L, q.inSs.imp ?_⟩
  rintro xs H1 ⟨ρ1, S1, us, e1, R1, s1, r1, q1⟩
  match us, r1, q1 with
  | [], _, q1 => exact q1.elim
  | [_], _, q1 => exact q1.elim
  | _ :: _ :: _ :: _, _, q1 => exact q1.elim
  | [u, v], r1, q1 =>
    obtain ⟨x, y, rfl, rx, ry⟩ := r1.eq2
    exact ⟨x, y, rfl, FinS.nx q1 R1 (((L.stp s1 R).set rx).set ry)⟩
theorem rs_par3 {i j l : Nat} {es : List Ex} : ∀ E σ H, rdS G (evS F (.par [i, j, l] es)) E σ H → tPar3 i j l (rdA G (evEs F es)) E σ H := by
  rintro E σ H ⟨B, ρ, S, τ, R, L, q⟩
  simp only [evS] at q
  refine ⟨B, ρ, S, τ, R, L, q.inSs.imp ?_⟩
  rintro xs H1 ⟨ρ1, S1, us, e1, R1, s1, r1, q1⟩
  match us, r1, q1 with
  | [], _, q1 => exact q1.elim
  | [_], _, q1 => exact q1.elim
  | [_, _], _, q1 => exact q1.elim
  | _ :: _ :: _ :: _ :: _, _, q1 => exact q1.elim
  | [u, v, t], r1, q1 =>
    obtain ⟨x, xs', rfl, rx, r1⟩ := r1
    obtain ⟨y, z, rfl, ry, rz⟩ := r1.eq2
    exact ⟨x, y, z, rfl, FinS.nx q1 R1 ((((L.stp s1 R).set rx).set ry).set rz)⟩
theorem rs_setix {o i e : Ex} : ∀ E σ H, rdS G (evS F (.setix o i e)) E σ H → tAsg (rdE G (evE F e)) (gSub (rdE G (evE F o)) (rdE G (evE F i)) rSetL) E σ H := by
  rintro E σ H ⟨B, ρ, S, τ, R, L, q⟩
  simp only [evS] at q
  refine ⟨B, ρ, S, τ, R, L, q.inS.imp ?_⟩
  rintro x H1 ⟨ρ1, S1, u, e1, R1, s1, r1, q1⟩
  have L1 := L.stp s1 R
  refine ⟨B, ρ1, S1, τ, R1, L1, q1.inS.imp ?_⟩
  rintro y H2 ⟨ρ2, S2, a, e2, R2, s2, r2, q2⟩
  have L2' := L1.stp s2 R1
  refine ⟨B, ρ2, S2, τ, R2, L2', q2.inS.imp ?_⟩
  rintro z H3 ⟨ρ3, S3, j, e3, R3, s3, r3, q3⟩
  have L3 := L2'.stp s3 R2
  have r1' := RepU.stp (s2.trans s3) R1 r1
  have r2' := RepU.stp s3 R2 r2
  simp only [M.bind] at q3
  cases e4 : frU u S3 with
  | err _ _ _ => simp only [e4] at q3; exact q3.elim
  | bad => simp only [e4] at q3; exact q3.elim
  | ok w S4 =>
    obtain ⟨s4, R4, rw4⟩ := frU_ok R3 r1' e4
    simp only [e4] at q3
    have L4 := L3.stp s4 R3
    have q4 := q3.later s4
    have r2'' := RepU.stp s4 R3 r2'
    match a, j, r2'', r3, q4 with
    | .p _, _, _, _, q4 => exact q4.elim
    | .loc n, .loc _, _, _, q4 => exact q4.elim
    | .loc n, .p w', r2'', r3, q4 =>
      cases w' <;> first | exact q4.elim | skip
      rename_i k
      simp only [setIxM] at q4
      simp only [RepU, Rep] at r3
      subst r3
      obtain rfl := r2''.2
      cases e5 : S4[n]? with
      | none => simp only [e5] at q4; exact q4.elim
      | some oo =>
        cases oo with
        | none => simp only [e5] at q4; exact q4.elim
        | some o5 =>
          cases o5 with
          | dct _ => simp only [e5] at q4; exact q4.elim
          | ins _ _ => simp only [e5] at q4; exact q4.elim
          | lst ws =>
            simp only [e5] at q4
            cases e6 : ixAt ws.length k with
            | none => simp only [e6] at q4; exact q4.elim
            | some m =>
              simp only [e6] at q4
              obtain ⟨vs, hv, rv⟩ := R4.at_ n _ e5
              obtain ⟨s5, R5⟩ := wr_at (o' := .lst (ws.set m w)) (ho := .lst (vs.set m x)) R4 e5 fun Z' st => ⟨_, upd_same, Reps.stay st (rv.set rw4)⟩
              refine ⟨ρ3 n, vs, k, m, rfl, rfl, hv, ?_, FinS.nx (q4.later s5) R5 (L4.stp s5 R4)⟩
              rw [rv.length]
              exact e6
theorem rs_setix2 {o i e : Ex} {jn : Nat} : ∀ E σ H, rdS G (evS F (.setix2 o i jn e)) E σ H → tAsg (rdE G (evE F e)) (gTup G.K 2 (gCons (gSub (rdE G (evE F o)) (rdE G (evE F i)) rSetL) (gCons (gName jn) gNil))) E σ H := by
  rintro E σ H ⟨B, ρ, S, τ, R, L, q⟩
  simp only [evS] at q
  refine ⟨B, ρ, S, τ, R, L, q.inS.imp ?_⟩
  rintro v H1 ⟨ρ1, S1, u, e1, R1, s1, r1, q1⟩
  have L1 := L.stp s1 R
  simp only [M.bind] at q1
  cases e0 : rdU u S1 with
  | err _ _ _ => simp only [e0] at q1; exact q1.elim
  | bad => simp only [e0] at q1; exact q1.elim
  | ok w S1' =>
    obtain ⟨rfl, p0⟩ := rdU_ok R1 r1 e0
    simp only [e0] at q1
    split at q1
    · rename_i x y
      obtain ⟨pa, vs, rfl, hsq, rs⟩ := rep0_tup p0
      have hlen := rs.length
      match vs, rs, hlen, hsq with
      | [vx, vy], rs, _, hsq =>
        simp only [Reps] at rs
        obtain ⟨_, _, e2, rx, _, _, e3, ry, _⟩ := rs
        cases e2
        cases e3
        refine ⟨pa, [vx, vy], rfl, hsq, rfl, vx, [vy], rfl, B, ρ1, S1', τ, R1, L1, q1.inS.imp ?_⟩
        rintro oy H2 ⟨ρ2, S2, a, e2, R2, s2, r2, q2⟩
        have L2' := L1.stp s2 R1
        refine ⟨B, ρ2, S2, τ, R2, L2', q2.inS.imp ?_⟩
        rintro z H3 ⟨ρ3, S3, j, e3, R3, s3, r3, q3⟩
        have L3 := L2'.stp s3 R2
        have rx' := Rep.stay ((s2.trans s3).stay R1) rx
        have ry' := Rep.stay ((s2.trans s3).stay R1) ry
        have r2'' := RepU.stp s3 R2 r2
        have q4 := q3
        match a, j, r2'', r3, q4 with
        | .p _, _, _, _, q4 => exact q4.elim
        | .loc n, .loc _, _, _, q4 => exact q4.elim
        | .loc n, .p w', r2'', r3, q4 =>
          cases w' <;> first | exact q4.elim | skip
          rename_i k
          simp only [M.bind, setIxM] at q4
          simp only [RepU, Rep] at r3
          subst r3
          obtain rfl := r2''.2
          cases e5 : S3[n]? with
          | none => simp only [e5] at q4; exact q4.elim
          | some oo =>
            cases oo with
            | none => simp only [e5] at q4; exact q4.elim
            | some o5 =>
              cases o5 with
              | dct _ => simp only [e5] at q4; exact q4.elim
              | ins _ _ => simp only [e5] at q4; exact q4.elim
              | lst ws =>
                simp only [e5] at q4
                cases e6 : ixAt ws.length k with
                | none => simp only [e6] at q4; exact q4.elim
                | some m =>
                  simp only [e6] at q4
                  obtain ⟨vs, hv, rv⟩ := R3.at_ n _ e5
                  obtain ⟨s5, R5⟩ := wr_at (o' := .lst (ws.set m x)) (ho := .lst (vs.set m vx)) R3 e5 fun Z' st => ⟨_, upd_same, Reps.stay st (rv.set rx')⟩
                  refine ⟨ρ3 n, vs, k, m, rfl, rfl, hv, by rw [rv.length]; exact e6, vy, [], rfl, rfl, ?_⟩
                  exact FinS.nx (q4.later s5) R5 ((L3.stp s5 R3).set (Rep.stay (s5.stay R3) ry'))
    · exact q1.elim
theorem rs_setf (x0 : XP G F D X N sc) {o e : Ex} {f : Str} (hf : D.flds.contains f = true) : ∀ E σ H, rdS G (evS F (.setf o f e)) E σ H → sFld X.K (rdE G (evE F o)) (rdE G (evE F e)) f E σ H := by
  rintro E σ H ⟨B, ρ, S, τ, R, L, q⟩
  simp only [evS] at q
  refine ⟨B, ρ, S, τ, R, L, q.inS.imp ?_⟩
  rintro x H1 ⟨ρ1, S1, u, e1, R1, s1, r1, q1⟩
  have L1 := L.stp s1 R
  refine ⟨B, ρ1, S1, τ, R1, L1, q1.inS.imp ?_⟩
  rintro y H2 ⟨ρ2, S2, a, e2, R2, s2, r2, q2⟩
  have L2' := L1.stp s2 R1
  have r1' := RepU.stp s2 R1 r1
  simp only [M.bind] at q2
  cases e4 : frU u S2 with
  | err _ _ _ => simp only [e4] at q2; exact q2.elim
  | bad => simp only [e4] at q2; exact q2.elim
  | ok w S4 =>
    obtain ⟨s4, R4, rw4⟩ := frU_ok R2 r1' e4
    simp only [e4] at q2
    have q4 := q2.later s4
    have r2'' := RepU.stp s4 R2 r2
    match a, r2'', q4 with
    | .p _, _, q4 => exact q4.elim
    | .loc n, r2'', q4 =>
      simp only [setFM] at q4
      obtain rfl := r2''.2
      cases e5 : S4[n]? with
      | none => simp only [e5] at q4; exact q4.elim
      | some oo =>
        cases oo with
        | none => simp only [e5] at q4; exact q4.elim
        | some o5 =>
          cases o5 with
          | dct _ => simp only [e5] at q4; exact q4.elim
          | lst _ => simp only [e5] at q4; exact q4.elim
          | ins C fs =>
            simp only [e5] at q4
            by_cases hl : fs.length < 100
            · rw [if_pos hl] at q4
              obtain ⟨Ca, dx, vfs, c, hv, rv⟩ := R4.at_ n _ e5
              obtain ⟨s5, R5⟩ := wr_at (o' := .ins C (putF f w fs)) (ho := .ins Ca dx (L2.putF f x vfs)) R4 e5 fun Z' st => ⟨Ca, dx, _, c, upd_same, RepF.stay st (rv.put rw4)⟩
              have ow := x0.own _ _ c
              exact ⟨ρ2 n, Ca, dx, vfs, rfl, hv, ow.cl, ow.na f hf, by rw [rv.length]; omega, FinS.nx (q4.later s5) R5 ((L2'.stp s4 R2).stp s5 R4)⟩
            · rw [if_neg hl] at q4; exact q4.elim
/-- name op= value -/
theorem aug_ok {p : Pr} {op : Operator} (h : augOf p = some op) : ∃ r, PIp X op r ∧ Op2 G r fun u v => p2 (augW p) [u, v] := by
  cases p <;> simp only [augOf, Option.some.injEq, reduceCtorEq] at h <;> subst h
  · refine ⟨fun x y H Q => (∃ i j, x = .int i ∧ y = .int j ∧ Q (.int (i + j)) H) ∨ (∃ (i : Int) (b : Bool), x = .int i ∧ y = .bl b ∧ Q (.int (i + b2i b)) H) ∨ ∃ i j, x = .str i ∧ y = .str j ∧ i.length + j.length ≤ sizeLine ∧ Q (.str (i ++ j)) H, ?_, op2_p2 fun B ρ S H a b w x y Q R r1 r2 e q => ?_⟩
    · rintro pins s σ H x y v u Q I rx ry (⟨i, j, rfl, rfl, q⟩ | ⟨i, j, rfl, rfl, q⟩ | ⟨i, j, rfl, rfl, hz, q⟩)
      · obtain ⟨t, rfl⟩ := (show ∃ t, v = Value.int i t from rx)
        obtain ⟨t', rfl⟩ := (show ∃ t', u = Value.int j t' from ry)
        exact PyProof.Rows.iadd_int ⟨.int (i + j), H, I.tok _, ⟨_, rfl⟩, q⟩
      · obtain ⟨t, rfl⟩ := (show ∃ t, v = Value.int i t from rx)
        cases (show u = Value.bool j from ry)
        exact PySem.iadd_int_bool ⟨.int (i + b2i j), H, I.tok _, ⟨_, rfl⟩, q⟩
      · obtain ⟨t, rfl⟩ := (show ∃ t, v = Value.str i t from rx)
        obtain ⟨t', rfl⟩ := (show ∃ t', u = Value.str j t' from ry)
        exact PySem.SB.iadd (fun t k => ⟨.str (i ++ j), H, I.tok _, ⟨_, rfl⟩, q⟩) hz
    · unfold augW at e
      split at e <;> first | contradiction | skip
      · cases e; rw [rep0_int r1, rep0_int r2]; exact .inl ⟨_, _, rfl, rfl, q.okU R (repI _)⟩
      · cases e; rw [rep0_int r1, rep0_bl r2]; exact .inr (.inl ⟨_, _, rfl, rfl, q.okU R (repI _)⟩)
      · split at e <;> cases e
        rename_i hl
        rw [rep0_str r1, rep0_str r2]; exact .inr (.inr ⟨_, _, rfl, rfl, Nat.le_trans hl big_line, q.okU R (repS _)⟩)
  · refine ⟨_, ip_sub, op2_p2 fun B ρ S H a b w x y Q R r1 r2 e q => ?_⟩
    unfold augW at e
    split at e <;> first | contradiction | skip
    cases e; rw [rep0_int r1, rep0_int r2]; exact ⟨_, _, rfl, rfl, q.okU R (repI _)⟩
  · refine ⟨_, iop_mul, op2_p2 fun B ρ S H a b w x y Q R r1 r2 e q => ?_⟩
    unfold augW at e
    split at e <;> first | contradiction | skip
    split at e <;> cases e
    rename_i hc
    rw [rep0_int r1, rep0_int r2]
    simp only [Bool.or_eq_true] at hc
    exact ⟨_, _, rfl, rfl, hc.imp bit64_ok bit64_ok, q.okU R (repI _)⟩
  · refine ⟨_, iop_fdiv, op2_p2 fun B ρ S H a b w x y Q R r1 r2 e q => ?_⟩
    unfold augW at e
    split at e <;> first | contradiction | skip
    split at e <;> cases e
    rename_i hc
    rw [rep0_int r1, rep0_int r2]; exact ⟨_, _, rfl, rfl, hc, q.okU R (repI _)⟩
theorem rs_aug {i : Nat} {p : Pr} {e : Ex} {r : TIp} (h : Op2 G r fun u v => p2 (augW p) [u, v]) : ∀ E σ H, rdS G (evS F (.aug i p e)) E σ H → tAug i (rdE G (evE F e)) r E σ H := by
  rintro E σ H ⟨B, ρ, S, τ, R, L, q⟩
  simp only [evS] at q
  cases e0 : τ[i]? with
  | none => simp only [e0] at q; exact q.elim
  | some o =>
    cases o with
    | none => simp only [e0] at q; exact q.elim
    | some u =>
      simp only [e0] at q
      obtain ⟨x, hx, rx⟩ := L.at_ i u e0
      refine ⟨x, hx, B, ρ, S, τ, R, L, q.inS.imp ?_⟩
      rintro y H1 ⟨ρ1, S1, v, e1, R1, s1, r1, q1⟩
      refine h B ρ1 S1 H1 u v x y _ R1 (RepU.stp s1 R rx) r1 (q1.inS.imp ?_)
      rintro z H2 ⟨ρ2, S2, t, e2, R2, s2, r2, q2⟩
      exact q2.nx R2 (((L.stp s1 R).stp s2 R1).set r2)
end
end Pm
end
section
set_option Elab.async false
set_option linter.all false
set_option maxHeartbeats 2000000
/-! Pm14: loops; all statements. -/
namespace Pm
open PySem PySem.Spec PyProof.Rows L2

section
variable {G : Gx} {F : Cf} {D : Ds} {X : Cx} {N : List Str} {sc : Scope} {B : List Addr} {ρ ρ' ρ1 : Nat → Addr} {S S' S1 : Sto} {H H' H1 : Hp} {E : Ends}
/-! ### loops -/
def NxG (G : Gx) (B : List Addr) (E : Ends) (ρ : Nat → Addr) (S : Sto) (H : Hp) (k : Lo → M Fl) : L2.St → Hp → Prop := fun σ' H' => ∃ ρ' S' τ', RelS G B ρ' S' H' ∧ RelL G B ρ' S' H' τ' σ' ∧ Stp ρ S H ρ' S' H' ∧ FinS G B E ρ' S' H' (k τ' S')
def turnK (k : Lo → M Fl) : Fl → M Fl
  | .nx τ2 => k τ2
  | .ct τ2 => k τ2
  | .bk τ2 => fun S => .ok (.nx τ2) S
  | .rt u => fun S => .ok (.rt u) S
  | .ex C fs τ2 => fun S => .ok (.ex C fs τ2) S
theorem FinS.loop {m : M Fl} {k : Lo → M Fl} (q : FinS G B E ρ S H (M.bind m (turnK k) S)) : FinS G B { E with nx := NxG G B E ρ S H k, ct := NxG G B E ρ S H k, bk := E.nx } ρ S H (m S) := by
  unfold M.bind at q
  cases e : m S with
  | err _ _ _ => rw [e] at q; exact q.elim
  | bad => rw [e] at q; exact q.elim
  | ok fl S2 =>
    rw [e] at q
    cases fl with
    | nx τ2 => exact fun σ ρ2 H2 s R L => ⟨ρ2, S2, τ2, R, L, s, FinS.later q s⟩
    | ct τ2 => exact fun σ ρ2 H2 s R L => ⟨ρ2, S2, τ2, R, L, s, FinS.later q s⟩
    | bk τ2 => exact q
    | rt u => exact q
    | ex _ _ _ => exact q.elim
theorem forL_cons {f : Lo → M Fl} {tg : Tg} {w : W} {ws : List W} {τ : Lo} : forL f tg (w :: ws) τ = match bindTg tg w τ with
    | none => badM
    | some τ1 => M.bind (f τ1) (turnK (forL f tg ws)) := by
  simp only [forL]
  cases bindTg tg w τ with
  | none => rfl
  | some τ1 => rfl
theorem whlL_succ {c : Lo → M Bool} {f : Lo → M Fl} {n : Nat} {τ : Lo} : whlL c f (n + 1) τ = M.bind (c τ) fun b => if b = true then M.bind (f τ) (turnK (whlL c f n)) else fun S => .ok (.nx τ) S := by
  rfl
theorem FinS.bindB {m : M Bool} {f : Bool → M Fl} (h : FinS G B E ρ S H (M.bind m f S)) : FinG G B RpB (fun b H1 => ∃ ρ1 S1 a, m S = .ok a S1 ∧ RelS G B ρ1 S1 H1 ∧ Stp ρ S H ρ1 S1 H1 ∧ a = b ∧ FinS G B E ρ1 S1 H1 (f a S1)) ρ S H (m S) := by
  unfold M.bind at h
  cases e : m S with
  | ok a S1 =>
    rw [e] at h
    exact fun b ρ1 H1 t R P => ⟨ρ1, S1, a, rfl, R, t, P, h.later t⟩
  | err _ _ _ => rw [e] at h; exact h.elim
  | bad => rw [e] at h; exact h.elim
theorem for_turns {J : It} {ws : List W} {τ : Lo} {σ : L2.St} {tg : Tg} {f : Lo → M Fl} (R1 : RelS G B ρ1 S1 H1) (L : RelL G B ρ1 S1 H1 τ σ) (it : ItOk G J ws B ρ1 S1 H1) (q : FinS G B E ρ1 S1 H1 (forL f tg ws τ S1)) :
    ∃ W : Nat → Nat → L2.St → Hp → Prop, (∃ m, W 0 m σ H1) ∧ ∀ i m σ H, W i m σ H →
      (J.stop i H ∧ E.nx σ H) ∨ (J.go i H ∧ ∃ N : L2.St → Hp → Prop, (∀ σ' H', N σ' H' → ∃ m', m' < m ∧ W (i + 1) m' σ' H') ∧ ∀ x H', J.yld i H x H' → tgR G tg x σ H' fun σ2 H2 => rdS G f { E with nx := N, ct := N, bk := E.nx } σ2 H2) := by
  refine ⟨fun i m σ H => ∃ ρ' S' τ', i ≤ ws.length ∧ m = ws.length - i ∧ RelS G B ρ' S' H ∧ Stp ρ1 S1 H1 ρ' S' H ∧ RelL G B ρ' S' H τ' σ ∧ FinS G B E ρ' S' H (forL f tg (ws.drop i) τ' S'), ⟨_, ρ1, S1, τ, Nat.zero_le _, rfl, R1, .refl, L, q⟩, ?_⟩
  rintro i m σ H ⟨ρ', S', τ', hi, rfl, R, s, L', q⟩
  have ok := it B ρ' S' H (fun b hb => .inl hb) s R i
  by_cases hlt : i < ws.length
  · refine .inr ?_
    obtain ⟨go, yl⟩ := ok.2 _ (List.getElem?_eq_getElem hlt)
    rw [List.drop_eq_getElem_cons hlt, forL_cons] at q
    cases eb : bindTg tg ws[i] τ' with
    | none => simp only [eb] at q; exact q.elim
    | some τ1 =>
      simp only [eb] at q
      refine ⟨go, NxG G B E ρ' S' H (forL f tg (ws.drop (i + 1))), ?_, ?_⟩
      · rintro σ' H' ⟨ρ2, S2, τ2, R2, L2', s2, q2⟩
        exact ⟨ws.length - (i + 1), by omega, ρ2, S2, τ2, hlt, rfl, R2, s.trans s2, L2', q2⟩
      · intro x H2 y
        obtain ⟨keep, rx⟩ := yl x H2 y
        have Rg := R.grow keep
        have sg := Stp.grow R keep
        obtain ⟨σ1, L1, _, k1⟩ := tg_bind eb (L'.stp sg R) rx
        refine k1 _ ⟨B, ρ', S', τ1, Rg, L1, ?_⟩
        have q' := (FinS.loop (q.later sg))
        revert q'
        cases f τ1 S' with
        | err _ _ _ => exact id
        | bad => exact id
        | ok fl S2 =>
          cases fl with
          | nx τ2 =>
            intro q' σ ρ2 H2 s R L
            obtain ⟨a1, a2, a3, a4, a5, a6, a7⟩ := q' σ ρ2 H2 s R L
            exact ⟨a1, a2, a3, a4, a5, sg.trans a6, a7⟩
          | ct τ2 =>
            intro q' σ ρ2 H2 s R L
            obtain ⟨a1, a2, a3, a4, a5, a6, a7⟩ := q' σ ρ2 H2 s R L
            exact ⟨a1, a2, a3, a4, a5, sg.trans a6, a7⟩
          | bk τ2 => exact id
          | rt u => exact id
          | ex _ _ _ => exact id
  · have hi2 : i = ws.length := by omega
    subst hi2
    simp only [List.drop_length, forL] at q
    exact .inl ⟨ok.1 rfl, q σ ρ' H .refl R L'⟩
/-- back at the place that was walked -/
theorem unpark_all {n : Nat} {ws : List W} {ρf : Nat → Addr} {Sf : Sto} {Hf : Hp} (R1 : RelS G B ρ1 S1 H1) (e : S1[n]? = some (some (.lst ws))) (s : Stp ρ1 (S1.set n none) H1 ρf Sf Hf) (R : RelS G (ρ1 n :: B) ρf Sf Hf) :
    Stp ρ1 S1 H1 (fun k => if k = n then ρ1 n else ρf k) (Sf.set n (some (.lst ws))) Hf ∧ RelS G B (fun k => if k = n then ρ1 n else ρf k) (Sf.set n (some (.lst ws))) Hf ∧
      ∀ u v, RepU G (ρ1 n :: B) ρf Sf Hf u v → RepU G B (fun k => if k = n then ρ1 n else ρf k) (Sf.set n (some (.lst ws))) Hf u v := by
  obtain ⟨Rk, stk⟩ := R1.park e
  obtain ⟨vs0, hv0, rv0⟩ := R1.at_ n _ e
  have hn : n < S1.length := (List.getElem?_eq_some_iff.mp e).1
  have hle : S1.length ≤ Sf.length := by simpa using s.len
  have nM : ¬ Mu ρ1 (S1.set n none) (ρ1 n) := fun ⟨k, o, e', z⟩ => by
    obtain ⟨d1, d2⟩ := getElem?_set_none e'
    exact d1 (R1.inj k n _ _ d2 e z)
  have hvf := (s.keep _ _ hv0 nM).1
  obtain ⟨R3, st3⟩ := R.unpark (S1 := Sf.set n (some (.lst ws))) (n := n) (a := ρ1 n) (B0 := B) (by simp) (fun b hb => List.mem_cons_of_mem _ hb) (R1.nb n _ e) hvf (Reps.stay (stay_later Rk s fun b hb => .inl hb) (Reps.stay stk rv0)) (set_live (Nat.lt_of_lt_of_le hn hle))
  refine ⟨s.unpark e, R3, fun u v r => ?_⟩
  cases u with
  | p w => exact Rep.stay st3 r
  | loc k =>
    obtain ⟨h1, h2⟩ := r
    refine ⟨by simpa using h1, ?_⟩
    dsimp only
    by_cases hk : k = n
    · rw [if_pos hk, h2, hk, (s.loc0 n (by simpa using hn)).2]
    · rw [if_neg hk]; exact h2
theorem FinS.unpark {n : Nat} {ws : List W} {f : List W → M Fl} (R1 : RelS G B ρ1 S1 H1) (e : S1[n]? = some (some (.lst ws))) (q : FinS G B E ρ1 S1 H1 (walkS (.loc n) f S1)) : FinS G (ρ1 n :: B) E ρ1 (S1.set n none) H1 (f ws (S1.set n none)) := by
  simp only [walkS, e] at q
  revert q
  cases f ws (S1.set n none) with
  | err _ _ _ => exact id
  | bad => exact id
  | ok fl Sf =>
    have lo : ∀ {τ σ ρf Hf}, Stp ρ1 (S1.set n none) H1 ρf Sf Hf → RelS G (ρ1 n :: B) ρf Sf Hf → RelL G (ρ1 n :: B) ρf Sf Hf τ σ → RelL G B (fun k => if k = n then ρ1 n else ρf k) (Sf.set n (some (.lst ws))) Hf τ σ := fun {τ σ ρf Hf} s R L =>
      ⟨L.len, fun i u h => by
        obtain ⟨v, h1, r⟩ := L.at_ i u h
        exact ⟨v, h1, (unpark_all R1 e s R).2.2 u v r⟩⟩
    cases fl with
    | nx τ2 => exact fun q σ ρf Hf s R L => q σ _ Hf (unpark_all R1 e s R).1 (unpark_all R1 e s R).2.1 (lo s R L)
    | ct τ2 => exact fun q σ ρf Hf s R L => q σ _ Hf (unpark_all R1 e s R).1 (unpark_all R1 e s R).2.1 (lo s R L)
    | bk τ2 => exact fun q σ ρf Hf s R L => q σ _ Hf (unpark_all R1 e s R).1 (unpark_all R1 e s R).2.1 (lo s R L)
    | rt u => exact fun q v ρf Hf s R r => q v _ Hf (unpark_all R1 e s R).1 (unpark_all R1 e s R).2.1 ((unpark_all R1 e s R).2.2 u v r)
    | ex _ _ _ => exact id
theorem rs_for {tg : Tg} {ip : Option Pr} {its : List Ex} {b : List Stx} : ∀ E σ H, rdS G (evS F (.for_ tg ip its b)) E σ H → tFor (rdI G (itM F ip its)) (tgR G tg) (rdS G (evB F b)) E σ H := by
  rintro E σ H ⟨B, ρ, S, τ, R, L, q⟩
  simp only [evS] at q
  refine ⟨B, ρ, S, τ, R, L, ?_⟩
  have q : FinS G B E ρ S H (inS (itM F ip its τ) τ (fun u => walkS u fun ws => forL (evB F b) tg ws τ) S) := q
  unfold inS at q
  cases e1 : itM F ip its τ S with
  | err _ _ _ => rw [e1] at q; exact q.elim
  | bad => rw [e1] at q; exact q.elim
  | ok u S1 =>
    rw [e1] at q
    simp only at q
    cases u with
    | p w =>
      simp only [walkS] at q
      cases ei : itemsW w with
      | none => simp only [ei] at q; exact q.elim
      | some ws =>
        simp only [ei] at q
        exact ⟨ws, ei, fun J ρ1 H1 s1 R1 it => for_turns R1 (L.stp s1 R) it (q.later s1)⟩
    | loc n =>
      cases en : S1[n]? with
      | none => simp only [walkS, en] at q; exact q.elim
      | some oo =>
        cases oo with
        | none => simp only [walkS, en] at q; exact q.elim
        | some o =>
          cases o with
          | dct _ => simp only [walkS, en] at q; exact q.elim
          | ins _ _ => simp only [walkS, en] at q; exact q.elim
          | lst ws => exact ⟨ws, en, fun J ρ1 H1 s1 R1 it => for_turns (R1.park en).1 (RelL.park R1 en (L.stp s1 R)) it ((q.later s1).unpark R1 en)⟩
theorem rs_whl {c : Ex} {b : List Stx} : ∀ E σ H, rdS G (evS F (.whl c b)) E σ H → tWhile (rdT G (evT F c)) (rdS G (evB F b)) E σ H := by
  rintro E σ H ⟨B, ρ, S, τ, R, L, q⟩
  simp only [evS] at q
  refine ⟨fun m σ H => ∃ ρ' S' τ', RelS G B ρ' S' H ∧ RelL G B ρ' S' H τ' σ ∧ FinS G B E ρ' S' H (whlL (evT F c) (evB F b) m τ' S'), ⟨F.wh, ρ, S, τ, R, L, q⟩, ?_⟩
  rintro m σ H ⟨ρ', S', τ', R', L', q'⟩
  cases m with
  | zero => exact q'.elim
  | succ m =>
    rw [whlL_succ] at q'
    refine ⟨B, ρ', S', τ', R', L', q'.bindB.imp ?_⟩
    rintro t H1 ⟨ρ1, S1, u, e1, R1, s1, rfl, q1⟩
    cases u with
    | false => exact FinS.nx q1 R1 (L'.stp s1 R')
    | true =>
      simp only [if_true] at q1 ⊢
      refine ⟨NxG G B E ρ1 S1 H1 (whlL (evT F c) (evB F b) m), ?_, B, ρ1, S1, τ', R1, L'.stp s1 R', q1.loop⟩
      rintro σ' H' ⟨ρ2, S2, τ2, R2, L2', s2, q2⟩
      exact ⟨m, Nat.lt_succ_self m, ρ2, S2, τ2, R2, L2', q2⟩
theorem rs_cons {s : Stx} {r : List Stx} : ∀ E σ H, rdS G (evB F (s :: r)) E σ H → tSeq (rdS G (evS F s)) (rdS G (evB F r)) E σ H := by
  rintro E σ H ⟨B, ρ, S, τ, R, L, q⟩
  simp only [evB] at q
  refine ⟨B, ρ, S, τ, R, L, ?_⟩
  unfold M.bind at q
  cases e : evS F s τ S with
  | err _ _ _ => rw [e] at q; exact q.elim
  | bad => rw [e] at q; exact q.elim
  | ok fl S2 =>
    rw [e] at q
    cases fl with
    | nx τ2 => exact fun σ ρ2 H2 s R L => ⟨B, ρ2, S2, τ2, R, L, FinS.later q s⟩
    | ct τ2 => exact q
    | bk τ2 => exact q
    | rt u => exact q
    | ex _ _ _ => exact q.elim
theorem rs_nil : ∀ E σ H, rdS G (evB F []) E σ H → tNext E σ H := by
  rintro E σ H ⟨B, ρ, S, τ, R, L, q⟩
  simp only [evB] at q
  exact q.nx R L

/-! ### all statements -/
structure XS (G : Gx) (F : Cf) (D : Ds) (X : Cx) (N : List Str) (sc : Scope) : Prop extends XP G F D X N sc where
  sq : X.env.scope = sc
  kd : sc.kind = .function
  nx : X.xe = fun _ _ => False
theorem XS.nox (x0 : XS G F D X N sc) : XS G F D X.nox N sc where
  kk := x0.kk
  nn := x0.nn
  ss := x0.ss
  nd := x0.nd
  calm := x0.calm
  un := x0.un
  gd := x0.gd
  fnok := x0.fnok
  free := x0.free
  glb := x0.glb
  tys := x0.tys
  tyd := x0.tyd
  kit := x0.kit
  tag0 := x0.tag0
  own := x0.own
  fcall := x0.fcall
  fmeth := x0.fmeth
  spec := x0.spec
  fnew := x0.fnew
  sq := x0.sq
  kd := x0.kd
  nx := rfl
theorem swaps_no {e : Expr} {t : Option Expr} {l : Nat} {env : Env} (h : isComp e = false) : swapsWith e t l env = pure false := by
  cases e <;> first | rfl | cases h
theorem swaps_tup {e t : Expr} {l : Nat} {env : Env} (h : ∀ x p, t ≠ .Name x p) : swapsWith e (some t) l env = pure false := by
  cases t <;> first | (cases e <;> rfl) | exact absurd rfl (h _ _)
theorem swapsS_tup {e t : Expr} {l : Nat} {env : Env} (h : ∀ x p, t ≠ .Name x p) : swapsWithSole [t] e l env = pure false := swaps_tup h
theorem swaps_lc {elt : Expr} {gs : List Comprehension} {scope : Scope} {pos py : Pos} {y : Str} {l : Nat} {env : Env} (hs : env.scope = sc) (hk : sc.kind = .function) (h : lcSwap sc y py scope pos = false) : swapsWith (.ListComp elt gs scope pos) (some (.Name y py)) l env = pure false := by
  have hb : env.blockKind = .function := by unfold Env.blockKind; rw [hs, hk]; rfl
  have ky : env.kindOf y = sc.names.lookup y := by unfold Env.kindOf; rw [hs]
  unfold lcSwap at h
  have h2 : isLocB sc y = (sc.names.lookup y == some .local) := by
    unfold isLocB
    cases sc.names.lookup y with
    | none => rfl
    | some k => cases k <;> rfl
  rw [h2] at h
  show (pure (env.blockKind == .function && env.kindOf y == some .local && py.line == pos.line && !(scope.names.any fun (n, k) => n == y && (k == .local || k == .cell))) : Sem Bool) = pure false
  rw [hb, ky]
  have h3 : (ScopeKind.function == ScopeKind.function) = true := rfl
  rw [h3, Bool.true_and, h]
theorem seti_ok {o i : Expr} {env : Env} {pos : Pos} (h : isSlice i = false) : ∀ v, assign (.Subscript o i pos) env v = (do
      let ov ← holding [v] (eval o env)
      let iv ← holding [v, ov] (eval i env)
      standAt pos
      holding [v, ov, iv] (setItem ov iv v)
      release [v, ov, iv] []) := fun v => by
  cases i <;> first | rfl | cases h
theorem swq_none {tes : List Expr} {k : Nat} {p : Pos} {e : Expr} {env : Env} (hs : env.scope = sc) (hk : sc.kind = .function) (h : (match e with | .Tuple vs _ _ => decide (swQ sc tes vs = some none) | _ => true) = true) : swappedStores [.Tuple tes k p] e env = pure none := by
  cases e with
  | Tuple vs k2 p2 => exact swQ_ok hs hk (of_decide_eq_true h)
  | _ => rfl
theorem asgT_snd (x0 : XS G F D X N sc) {ts : List Tg} {tes : List Expr} {k : Nat} {p pos : Pos} {e : Expr} {te : TE} (h : chkTs N sc ts tes = true) (he : PE X e te) (hw : swappedStores [.Tuple tes k p] e X.env = pure none) : PS X (.Assign [.Tuple tes k p] e pos) (tAsg te (tgR G (.tp ts))) :=
  ps_asg he (tg_snd (t := .tp ts) (e := .Tuple tes k p) x0.toXOk (by simpa only [chkT] using h)) (swapsS_tup fun x p => by simp) hw rfl
theorem par_snd (x0 : XS G F D X N sc) {is : List Nat} {es : List Ex} {tes vs : List Expr} {k k2 : Nat} {p p2 pos : Pos} (h1 : chkTs N sc (is.map .nm) tes = true) (a : AllPE G F X es vs) (h3 : vs.all (fun e => !isStar e) = true) (h4 : vs.length ≤ 1000) (h5 : swQ sc tes vs = some none) :
    PS X (.Assign [.Tuple tes k p] (.Tuple vs k2 p2) pos) (rdS G (evS F (.par is es))) :=
  PS.imp (asgT_snd x0 h1 (pe_tup (pa_of a h3)) (swQ_ok x0.sq x0.kd h5)) (rs_parT (by rw [a.len]; exact h4))
theorem nm_at {i : Nat} {x : Str} {p : Pos} (h : chkT N sc (.nm i) (.Name x p) = true) : N[i]? = some x := by
  simp only [chkT, Bool.and_eq_true, decide_eq_true_eq] at h
  exact h.1
theorem rs_raise {C : String} {fs : List Str} {es : List Ex} : ∀ B E ρ S H τ, ¬ FinS G B E ρ S H (evS F (.raise C fs es) τ S) := by
  intro B E ρ S H τ q
  simp only [evS, inSs] at q
  cases e : evEs F es τ S with
  | err _ _ _ => rw [e] at q; exact q.elim
  | bad => rw [e] at q; exact q.elim
  | ok us S1 =>
    rw [e] at q
    simp only [M.bind] at q
    cases e2 : frUs us S1 with
    | err _ _ _ => rw [e2] at q; exact q.elim
    | bad => rw [e2] at q; exact q.elim
    | ok ws S2 => rw [e2] at q; exact q.elim
theorem rs_brk : ∀ E σ H, rdS G (evS F .brk) E σ H → tBreak E σ H := by
  rintro E σ H ⟨B, ρ, S, τ, R, L, q⟩
  exact q σ ρ H .refl R L
theorem rs_cnt : ∀ E σ H, rdS G (evS F .cnt) E σ H → tCont E σ H := by
  rintro E σ H ⟨B, ρ, S, τ, R, L, q⟩
  exact q σ ρ H .refl R L
theorem rs_pass : ∀ E σ H, rdS G (evS F .pass) E σ H → tNext E σ H := by
  rintro E σ H ⟨B, ρ, S, τ, R, L, q⟩
  exact q σ ρ H .refl R L
theorem asg_snd (x0 : XS G F D X N sc) {i : Nat} {ex : Ex} {y : Str} {py pos : Pos} {x : Expr} (h1 : N[i]? = some y) (h2 : locB sc y = true) (h3 : chk D N sc ex x = true) (h4 : (!isComp x || isExComp ex) = true) :
    PS X (.Assign [.Name y py] x pos) (rdS G (evS F (.asg (.nm i) ex))) := by
  obtain ⟨hl, hf⟩ := x0.toXOk.loc h2
  have hN : X.N.Nodup := x0.nn.symm ▸ x0.nd
  have hi : X.N[i]? = some y := by rw [x0.nn]; exact h1
  by_cases hc : isComp x = true
  · simp only [hc, Bool.not_true, Bool.false_or] at h4
    cases ex <;> simp only [isExComp, Bool.false_eq_true] at h4
    rename_i mm own tg ip its cond elt
    cases x <;> simp only [isComp, Bool.false_eq_true] at hc
    · rename_i el gs scope lp
      have pe := sndE _ x0.toXP h3
      by_cases hsw : lcSwap sc y py scope lp = true
      · match gs with
        | [⟨t, it, ifs, n⟩] =>
          by_cases hn : n = 0
          · subst hn
            simp only [chk, Bool.and_eq_true, Bool.not_eq_true', decide_eq_true_eq] at h3
            obtain ⟨⟨⟨⟨⟨⟨⟨c1, c2⟩, c3⟩, c4⟩, c5⟩, c6⟩, c7⟩, c8⟩ := h3
            split at c6
            · rename_i as ha
              simp only [lcSwap, Bool.and_eq_true, Bool.not_eq_true'] at hsw
              obtain ⟨⟨w1, w2⟩, w3⟩ := hsw
              have hyl : X.env.scope.names.lookup y = some .local := by
                rw [x0.sq]
                unfold isLocB at w1
                split at w1
                · assumption
                · cases w1
              refine PS.imp (ps_setLc x0.calm hN hi hyl (sw_true (by rw [x0.sq]; exact x0.kd) hyl w2 w3) (pi_it x0.toXP ha (sndEs its x0.toXP c6)) (x0.toXOk.blkOk c1) (fun s H C cl fp => tg_snd (x0.toXP.blk (s := s) (H := H) (C := C) (cl := cl) (fp := fp)).toXOk c3)
                (fun s H C cl fp => sndC cond x0.toXP.blk c7 c4) (fun s H C cl fp => sndE elt x0.toXP.blk c8) (fold_plain c2)) fun E σ H q => ?_
              exact rd_comp c5 _ _ _ (rs_asg _ _ _ q)
            · cases c6
          · exfalso
            unfold chk at h3
            split at h3 <;> first | (cases h3; done) | skip
            all_goals simp_all
        | [] => simp [chk] at h3
        | _ :: _ :: _ => simp [chk] at h3
      · exact PS.imp (ps_set hN hi hl pe (swaps_lc x0.sq x0.kd (by simpa using hsw)) hf) rs_asg
    · simp [chk] at h3
    · simp [chk] at h3
  · exact PS.imp (ps_set hN hi hl (sndE _ x0.toXP h3) (swaps_no (by simpa using hc)) hf) rs_asg
theorem par_all (x0 : XS G F D X N sc) {is : List Nat} {es : List Ex} {tes vs : List Expr} {k k2 : Nat} {p p2 pos : Pos} (h : chkPar D N sc is es [.Tuple tes k p] (.Tuple vs k2 p2) = true) :
    PS X (.Assign [.Tuple tes k p] (.Tuple vs k2 p2) pos) (rdS G (evS F (.par is es))) := by
  simp only [chkPar, Bool.and_eq_true, decide_eq_true_eq] at h
  obtain ⟨⟨⟨⟨h1, h2⟩, h3⟩, h4⟩, h5⟩ := h
  have a := sndEs es x0.toXP h2
  have hN : X.N.Nodup := x0.nn.symm ▸ x0.nd
  split at h5
  · rename_i i j x px y py
    simp only [Bool.or_eq_true, Bool.and_eq_true, decide_eq_true_eq] at h5
    rcases h5 with h5 | ⟨⟨⟨h5, h6⟩, h7⟩, h8⟩
    · exact par_snd x0 h1 a h3 h4 h5
    · have hl : vs.length = 2 := by
        unfold swQ at h5
        split at h5
        · cases h5
        · rename_i c
          simp only [Bool.or_eq_true, Bool.not_eq_true', not_or, bne_iff_ne, ne_eq, Bool.not_eq_false, Decidable.not_not] at c
          simpa using c.2
      match vs, hl with
      | [v1, v2], _ =>
        simp only [List.map_cons, List.map_nil, chkTs, Bool.and_eq_true] at h1
        refine PS.imp (ps_par x0.calm hN (by rw [x0.nn]; exact nm_at h1.2.1) (by rw [x0.nn]; exact nm_at h1.2.2.2.1) h6 (by rw [x0.sq]; exact h7) (by rw [x0.sq]; exact h8) (pa_of a h3) (swQ_ok x0.sq x0.kd h5) (swapsS_tup fun x p => by simp)) rs_par2
  · rename_i i j l x px y py z pz
    simp only [Bool.or_eq_true, Bool.and_eq_true, decide_eq_true_eq] at h5
    rcases h5 with h5 | ⟨⟨⟨⟨⟨⟨h5, h6⟩, h7⟩, h8⟩, h9⟩, h10⟩, h11⟩
    · exact par_snd x0 h1 a h3 h4 h5
    · have hl : vs.length = 3 := by
        unfold swQ at h5
        split at h5
        · cases h5
        · rename_i c
          simp only [Bool.or_eq_true, Bool.not_eq_true', not_or, bne_iff_ne, ne_eq, Bool.not_eq_false, Decidable.not_not] at c
          simpa using c.2
      match vs, hl with
      | [v1, v2, v3], _ =>
        simp only [List.map_cons, List.map_nil, chkTs, Bool.and_eq_true] at h1
        refine PS.imp (ps_par3 x0.calm hN (by rw [x0.nn]; exact nm_at h1.2.1) (by rw [x0.nn]; exact nm_at h1.2.2.2.1) (by rw [x0.nn]; exact nm_at h1.2.2.2.2.2.1) h6 h7 h8 (by rw [x0.sq]; exact h9) (by rw [x0.sq]; exact h10) (by rw [x0.sq]; exact h11) (pa_of a h3) (swQ_ok x0.sq x0.kd h5) (swapsS_tup fun x p => by simp)) rs_par3
  · exact par_snd x0 h1 a h3 h4 (of_decide_eq_true h5)
theorem chkS_nv {st : Stx} {s : Stmt} (h : chkS D N sc st s = true) : True := trivial
theorem asg_all (x0 : XS G F D X N sc) {tg : Tg} {e : Ex} {ts : List Expr} {x : Expr} {pos : Pos} (h : chkAsg D N sc tg e ts x = true) : PS X (.Assign ts x pos) (rdS G (evS F (.asg tg e))) := by
  unfold chkAsg at h
  split at h
  · simp only [Bool.and_eq_true, decide_eq_true_eq] at h
    exact asg_snd x0 h.1.1.1 h.1.1.2 h.1.2 h.2
  · simp only [Bool.and_eq_true] at h
    exact PS.imp (asgT_snd x0 h.1.1 (sndE e x0.toXP h.1.2) (swq_none x0.sq x0.kd h.2)) rs_asgT
  · cases h
theorem par_all' (x0 : XS G F D X N sc) {is : List Nat} {es : List Ex} {ts : List Expr} {x : Expr} {pos : Pos} (h : chkPar D N sc is es ts x = true) : PS X (.Assign ts x pos) (rdS G (evS F (.par is es))) := by
  have h0 := h
  unfold chkPar at h
  split at h
  · exact par_all x0 h0
  · cases h
theorem setix_all (x0 : XS G F D X N sc) {o i e : Ex} {ts : List Expr} {x : Expr} {pos : Pos} (h : chkSetix D N sc o i e ts x = true) : PS X (.Assign ts x pos) (rdS G (evS F (.setix o i e))) := by
  unfold chkSetix at h
  split at h
  · simp only [Bool.and_eq_true, Bool.not_eq_true'] at h
    exact PS.imp (ps_asg (sndE e x0.toXP h.2) (pg_sub (sndE o x0.toXP h.1.1.2) (sndE i x0.toXP h.1.2) set_list (seti_ok h.1.1.1)) (swapsS_tup fun x p => by simp) rfl rfl) rs_setix
  · cases h
theorem setix2_all (x0 : XS G F D X N sc) {o i e : Ex} {jn : Nat} {ts : List Expr} {x : Expr} {pos : Pos} (h : chkSetix2 D N sc o i jn e ts x = true) : PS X (.Assign ts x pos) (rdS G (evS F (.setix2 o i jn e))) := by
  unfold chkSetix2 at h
  split at h
  · simp only [Bool.and_eq_true, Bool.not_eq_true', decide_eq_true_eq] at h
    obtain ⟨⟨⟨⟨⟨⟨h1, h2⟩, h3⟩, h4⟩, h5⟩, h6⟩, h7⟩ := h
    obtain ⟨hl, hf⟩ := x0.toXOk.loc h4
    refine PS.imp (ps_asg (sndE e x0.toXP h7) (pg_tup (n := 2) x0.calm (pgs_cons (pg_sub (sndE o x0.toXP h5) (sndE i x0.toXP h6) set_list (seti_ok h2)) (pgs_cons (pg_name (x0.nn.symm ▸ x0.nd) (by rw [x0.nn]; exact h3) hl hf) pgs_nil rfl) rfl) rfl rfl) (swapsS_tup fun x p => by simp) ?_ rfl) ?_
    · cases x <;> first | rfl | cases h1
    · rw [x0.kk]
      exact rs_setix2
  · cases h
theorem setf_all (x0 : XS G F D X N sc) {o e : Ex} {f : Str} {ts : List Expr} {x : Expr} {pos : Pos} (h : chkSetf D N sc o f e ts x = true) : PS X (.Assign ts x pos) (rdS G (evS F (.setf o f e))) := by
  unfold chkSetf at h
  split at h
  · simp only [Bool.and_eq_true, decide_eq_true_eq] at h
    obtain ⟨⟨⟨rfl, h1⟩, h2⟩, h3⟩ := h
    exact PS.imp (ps_fld (sndE o x0.toXP h2) (sndE e x0.toXP h3) (swaps_tup fun x p => by simp)) (rs_setf x0.toXP h1)
  · cases h
theorem aug_all (x0 : XS G F D X N sc) {i : Nat} {p : Pr} {e : Ex} {t : Expr} {op : Operator} {x : Expr} {pos : Pos} (h : chkAug D N sc i p e t op x = true) : PS X (.AugAssign t op x pos) (rdS G (evS F (.aug i p e))) := by
  unfold chkAug at h
  split at h
  · simp only [Bool.and_eq_true, decide_eq_true_eq] at h
    obtain ⟨⟨⟨h1, h2⟩, h3⟩, h4⟩ := h
    split at h4
    · rename_i o ho
      obtain rfl := eqOp_eq h4
      obtain ⟨hl, hf⟩ := x0.toXOk.loc h2
      obtain ⟨r, c1, c2⟩ := aug_ok (G := G) (X := X) ho
      exact PS.imp (ps_aug (x0.nn.symm ▸ x0.nd) (by rw [x0.nn]; exact h1) hl (sndE e x0.toXP h3) c1 hf) (rs_aug c2)
    · cases h4
  · cases h
mutual
theorem sndS : ∀ (st : Stx) {X : Cx} {s : Stmt}, XS G F D X N sc → chkS D N sc st s = true → PS X s (rdS G (evS F st))
  | .expr e, X, s, x0, h => by
    cases s <;> simp only [chkS, Bool.false_eq_true] at h
    simp only [Bool.and_eq_true, Bool.not_eq_true'] at h
    exact PS.imp (ps_expr (sndE e x0.toXP h.1) (swaps_no h.2)) rs_expr
  | .asg tg e, X, s, x0, h => by
    cases s <;> simp only [chkS, Bool.false_eq_true] at h
    exact asg_all x0 h
  | .par is es, X, s, x0, h => by
    cases s <;> simp only [chkS, Bool.false_eq_true] at h
    exact par_all' x0 h
  | .setix o i e, X, s, x0, h => by
    cases s <;> simp only [chkS, Bool.false_eq_true] at h
    exact setix_all x0 h
  | .setix2 o i j e, X, s, x0, h => by
    cases s <;> simp only [chkS, Bool.false_eq_true] at h
    exact setix2_all x0 h
  | .setf o f e, X, s, x0, h => by
    cases s <;> simp only [chkS, Bool.false_eq_true] at h
    exact setf_all x0 h
  | .aug i p e, X, s, x0, h => by
    cases s <;> simp only [chkS, Bool.false_eq_true] at h
    exact aug_all x0 h
  | .ret e, X, s, x0, h => by
    cases s <;> simp only [chkS, Bool.false_eq_true] at h
    split at h
    · exact PS.imp (ps_ret (sndE e x0.toXP h)) rs_ret
    · cases h
  | .retN, X, s, x0, h => by
    cases s <;> simp only [chkS, Bool.false_eq_true] at h
    rename_i x p
    cases x with
    | none => exact PS.imp ps_retN rs_retN
    | some x => cases h
  | .ifs c a b, X, s, x0, h => by
    cases s <;> simp only [chkS, Bool.false_eq_true] at h
    simp only [Bool.and_eq_true] at h
    exact PS.imp (ps_if (sndT c x0.toXP h.1.1).1 (sndB a x0 h.1.2) (sndB b x0 h.2)) rs_ifs
  | .for_ tg ip its b, X, s, x0, h => by
    cases s <;> simp only [chkS, Bool.false_eq_true] at h
    simp only [Bool.and_eq_true, Bool.not_eq_true', List.isEmpty_iff] at h
    obtain ⟨⟨⟨⟨rfl, h1⟩, h2⟩, h3⟩, h4⟩ := h
    split at h3
    · rename_i as ha
      exact PS.imp (ps_for (by rw [x0.nx]; exact PassesOwn.never) x0.calm (pi_it x0.toXP ha (sndEs its x0.toXP h3)) (tg_snd x0.toXOk h2) (sndB b x0 h4) (fold_plain h1)) rs_for
    · cases h3
  | .whl c b, X, s, x0, h => by
    cases s <;> simp only [chkS, Bool.false_eq_true] at h
    simp only [Bool.and_eq_true, List.isEmpty_iff] at h
    obtain ⟨⟨rfl, h1⟩, h2⟩ := h
    exact PS.imp (ps_while (by rw [x0.nx]; exact PassesOwn.never) (sndT c x0.toXP h1).1 (sndB b x0 h2)) rs_whl
  | .brk, X, s, x0, h => by
    cases s <;> simp only [chkS, Bool.false_eq_true] at h
    exact PS.imp ps_break rs_brk
  | .cnt, X, s, x0, h => by
    cases s <;> simp only [chkS, Bool.false_eq_true] at h
    exact PS.imp ps_continue rs_cnt
  | .pass, X, s, x0, h => by
    cases s <;> simp only [chkS, Bool.false_eq_true] at h
    exact PS.imp ps_pass rs_pass
  | .raise C fs es, X, s, x0, h => rds_bad rs_raise
  | .thru b, X, s, x0, h => by
    cases s <;> simp only [chkS, Bool.false_eq_true] at h
    rename_i body hs orelse fin pos
    simp only [Bool.and_eq_true, Bool.not_eq_true', List.isEmpty_iff] at h
    obtain ⟨⟨⟨h1, rfl⟩, rfl⟩, h2⟩ := h
    cases hs with
    | nil => simp at h1
    | cons h0 hs => exact PS.imp (ps_try_thru0 (sndB b x0.nox h2)) fun E σ H q => by simpa only [evS] using q
  | .nev, X, s, x0, h => rds_bad fun B E ρ S H τ q => q
theorem sndB : ∀ (as : List Stx) {X : Cx} {es : List Stmt}, XS G F D X N sc → chkB D N sc as es = true → PSs X es (rdS G (evB F as))
  | [], X, [], x0, _ => PSs.imp pss_nil rs_nil
  | a :: as, X, e :: es, x0, h => by
    simp only [chkB, Bool.and_eq_true] at h
    exact PSs.imp (pss_cons (sndS a x0 h.1) (sndB as x0 h.2)) rs_cons
  | [], X, _ :: _, _, h => by simp [chkB] at h
  | _ :: _, X, [], _, h => by simp [chkB] at h
end
end
end Pm
end
section
set_option Elab.async false
set_option linter.all false
set_option maxHeartbeats 2000000
/-! Pm15: how a call binds its arguments, whatever the def. -/
namespace Pm
open PySem PySem.Spec PyProof.Rows L2

section
variable {α β : Type}
def mV (φ : α → β) (q : Str × α) : Str × β := (q.1, φ q.2)
def fillD (s : List (Str × α)) : List (Str × α) → List (Str × α)
  | [] => s
  | x :: l => fillD (if (s.lookup x.1).isNone then s ++ [x] else s) l
def fillK (kwd : List (Str × α)) (s : List (Str × α)) : List Str → List (Str × α)
  | [] => s
  | n :: l => fillK kwd (if (s.lookup n).isNone then (match kwd.lookup n with
      | some v => s ++ [(n, v)]
      | none => s) else s) l
def okK (kwd : List (Str × α)) (s : List (Str × α)) : List Str → Bool
  | [] => true
  | n :: l => if (s.lookup n).isNone then (match kwd.lookup n with
      | some v => okK kwd (s ++ [(n, v)]) l
      | none => false) else okK kwd s l
/-- the keywords are known and new -/
def okW (ok : Str → Bool) (s : List (Str × α)) : List (Str × α) → Bool
  | [] => true
  | x :: l => ok x.1 && (s.lookup x.1).isNone && okW ok (s ++ [x]) l
def slots2 (pos ks : List Str) (us ws its : List α) : List (Str × α) := fillD (pos.zip us ++ ks.zip ws) ((pos.drop (pos.length - its.length)).zip its)
def bindP (pos kwo ks : List Str) (us ws its : List α) (kwd : List (Str × α)) : List (Str × α) :=
  (pos ++ kwo).filterMap fun n => ((fillK kwd (slots2 pos ks us ws its) kwo).lookup n).map (n, ·)
def bndOk (pos kwo ks : List Str) (ok : Str → Bool) (us ws its : List α) (kwd : List (Str × α)) : Bool :=
  decide (us.length ≤ pos.length) && decide (its.length ≤ pos.length) && okW ok (pos.zip us) (ks.zip ws) && (pos.take (pos.length - its.length)).all (fun n => ((pos.zip us ++ ks.zip ws).lookup n).isSome) && okK kwd (slots2 pos ks us ws its) kwo

/-! ### whatever the values -/
theorem lookup_mV (φ : α → β) (n : Str) : ∀ s : List (Str × α), (s.map (mV φ)).lookup n = (s.lookup n).map φ
  | [] => rfl
  | (k, v) :: r => by
    show List.lookup n ((k, φ v) :: r.map (mV φ)) = _
    cases h : n == k with
    | true => simp only [List.lookup_cons, h]; rfl
    | false => simp only [List.lookup_cons, h]; exact lookup_mV φ n r
theorem fillD_mV (φ : α → β) : ∀ (l s : List (Str × α)), fillD (s.map (mV φ)) (l.map (mV φ)) = (fillD s l).map (mV φ)
  | [], s => rfl
  | x :: l, s => by
    simp only [List.map_cons, fillD]
    rw [show (mV φ x).1 = x.1 from rfl, lookup_mV]
    cases h : s.lookup x.1 with
    | none =>
      simp only [Option.map_none, Option.isNone_none, if_true]
      rw [← fillD_mV φ l, List.map_append]
      rfl
    | some v =>
      simp only [Option.map_some, Option.isNone_some, Bool.false_eq_true, if_false]
      exact fillD_mV φ l s
theorem fillK_mV (φ : α → β) (kwd : List (Str × α)) : ∀ (l : List Str) (s : List (Str × α)), fillK (kwd.map (mV φ)) (s.map (mV φ)) l = (fillK kwd s l).map (mV φ)
  | [], s => rfl
  | n :: l, s => by
    simp only [fillK]
    rw [lookup_mV, lookup_mV]
    cases h : s.lookup n with
    | none =>
      simp only [Option.map_none, Option.isNone_none, if_true]
      cases h2 : kwd.lookup n with
      | none => exact fillK_mV φ kwd l s
      | some v =>
        simp only [Option.map_some]
        rw [← fillK_mV φ kwd l, List.map_append]
        rfl
    | some v =>
      simp only [Option.map_some, Option.isNone_some, Bool.false_eq_true, if_false]
      exact fillK_mV φ kwd l s
theorem okK_mV (φ : α → β) (kwd : List (Str × α)) : ∀ (l : List Str) (s : List (Str × α)), okK (kwd.map (mV φ)) (s.map (mV φ)) l = okK kwd s l
  | [], s => rfl
  | n :: l, s => by
    simp only [okK]
    rw [lookup_mV, lookup_mV]
    cases h : s.lookup n with
    | none =>
      simp only [Option.map_none, Option.isNone_none, if_true]
      cases h2 : kwd.lookup n with
      | none => rfl
      | some v =>
        simp only [Option.map_some]
        rw [← okK_mV φ kwd l, List.map_append]
        rfl
    | some v =>
      simp only [Option.map_some, Option.isNone_some, Bool.false_eq_true, if_false]
      exact okK_mV φ kwd l s
theorem okW_mV (φ : α → β) (ok : Str → Bool) : ∀ (l s : List (Str × α)), okW ok (s.map (mV φ)) (l.map (mV φ)) = okW ok s l
  | [], s => rfl
  | x :: l, s => by
    simp only [List.map_cons, okW]
    rw [show (mV φ x).1 = x.1 from rfl, lookup_mV, ← okW_mV φ ok l, List.map_append]
    cases s.lookup x.1 <;> rfl
theorem zip_mV (φ : α → β) : ∀ (ks : List Str) (us : List α), ks.zip (us.map φ) = (ks.zip us).map (mV φ)
  | [], _ => rfl
  | _ :: _, [] => rfl
  | k :: ks, u :: us => by
    simp only [List.map_cons, List.zip_cons_cons, zip_mV φ ks us]
    rfl
theorem slots2_mV (φ : α → β) {pos ks : List Str} {us ws its : List α} : slots2 pos ks (us.map φ) (ws.map φ) (its.map φ) = (slots2 pos ks us ws its).map (mV φ) := by
  unfold slots2
  rw [zip_mV, zip_mV, zip_mV, ← List.map_append, fillD_mV, List.length_map]
theorem bindP_mV (φ : α → β) {pos kwo ks : List Str} {us ws its : List α} {kwd : List (Str × α)} : bindP pos kwo ks (us.map φ) (ws.map φ) (its.map φ) (kwd.map (mV φ)) = (bindP pos kwo ks us ws its kwd).map (mV φ) := by
  unfold bindP
  rw [slots2_mV, fillK_mV, List.map_filterMap]
  congr 1
  funext n
  rw [lookup_mV]
  cases List.lookup n (fillK kwd (slots2 pos ks us ws its) kwo) <;> rfl
theorem bndOk_mV (φ : α → β) {pos kwo ks : List Str} {ok : Str → Bool} {us ws its : List α} {kwd : List (Str × α)} : bndOk pos kwo ks ok (us.map φ) (ws.map φ) (its.map φ) (kwd.map (mV φ)) = bndOk pos kwo ks ok us ws its kwd := by
  unfold bndOk
  rw [slots2_mV, okK_mV, zip_mV, zip_mV, okW_mV, List.length_map, List.length_map, ← List.map_append]
  congr 2
  congr 1
  funext n
  rw [lookup_mV]
  cases List.lookup n (pos.zip us ++ ks.zip ws) <;> rfl
end

/-! ### bindArgs -/
theorem kw_loop {ok : Str → Bool} {body : (Str × Value) → (List (Str × Value) × List (Str × Value)) → Sem (ForInStep (List (Str × Value) × List (Str × Value)))}
    (hb : ∀ x s, ok x.1 = true → s.1.lookup x.1 = none → body x s = pure (.yield (s.1 ++ [(x.1, x.2)], s.2))) : ∀ (kw s : List (Str × Value)), okW ok s kw = true → forIn kw (s, ([] : List (Str × Value))) body = pure (s ++ kw, [])
  | [], s, _ => by simp
  | x :: kw, s, e => by
    simp only [okW, Bool.and_eq_true, Option.isNone_iff_eq_none] at e
    rw [List.forIn_cons, hb x (s, []) e.1.1 e.1.2]
    simp only [pure_bind]
    rw [kw_loop hb kw _ e.2]
    simp
theorem fd_loop {body : (Str × Value) → List (Str × Value) → Sem (ForInStep (List (Str × Value)))}
    (hb : ∀ x s, body x s = if (s.lookup x.1).isNone = true then pure (.yield (s ++ [(x.1, x.2)])) else pure (.yield s)) : ∀ (l s : List (Str × Value)), forIn l s body = pure (fillD s l)
  | [], s => by simp [fillD]
  | x :: l, s => by
    rw [List.forIn_cons, hb]
    simp only [fillD]
    split
    · simp only [pure_bind]
      exact fd_loop hb l _
    · simp only [pure_bind]
      exact fd_loop hb l _
theorem kd_loop {M : Model} {h : Heap} {kwd : List (Str × Value)} {body : Str → (List (Str × Value) × List Str) → Sem (ForInStep (List (Str × Value) × List Str))}
    (h1 : ∀ n s v, s.1.lookup n = some v → body n s = pure (.yield s)) (h2 : ∀ n s v, s.1.lookup n = none → kwd.lookup n = some v → PySem.W.Looks M h (body n s) (.yield (s.1 ++ [(n, v)], s.2))) :
    ∀ (l : List Str) (s : List (Str × Value)), okK kwd s l = true → PySem.W.Looks M h (forIn l (s, ([] : List Str)) body) (fillK kwd s l, [])
  | [], s, _ => by simpa [fillK] using PySem.W.Looks.now
  | n :: l, s, e => by
    rw [List.forIn_cons]
    simp only [okK] at e
    simp only [fillK]
    cases hl : s.lookup n with
    | some v =>
      rw [h1 n (s, []) v hl]
      simp only [pure_bind, Option.isNone_some, Bool.false_eq_true, if_false]
      simp only [hl, Option.isNone_some, Bool.false_eq_true, if_false] at e
      exact kd_loop h1 h2 l s e
    | none =>
      simp only [hl, Option.isNone_none, if_true] at e ⊢
      cases hk : kwd.lookup n with
      | none => simp only [hk] at e; cases e
      | some v =>
        simp only [hk] at e ⊢
        exact (h2 n (s, []) v hl hk).andThen (kd_loop h1 h2 l _ e)
/-- the whole of it -/
theorem bind_looks {M : Model} {h : Heap} {fd : FuncData} {po pos nor kwo ks : List Str} {us ws its : List Value} {kwd : List (Str × Value)} (hv : fd.params.vararg = none) (hk : fd.params.kwarg = none)
    (hpo : fd.params.posonlyargs.map (·.arg) = po) (hp : po ++ nor = pos) (hn : fd.params.args.map (·.arg) = nor) (ho : fd.params.kwonlyargs.map (·.arg) = kwo)
    (hd : ∃ oa, PySem.W.Looks M h (seqItems? fd.defaults) oa ∧ (oa.getD #[]).toList = its) (hkw : ∀ n v, kwd.lookup n = some v → ∃ d, fd.kwdefaults = .ref d ∧ PySem.W.Looks M h (nsGet d n) (some v))
    (c : bndOk pos kwo ks (fun k => nor.contains k || kwo.contains k) us ws its kwd = true) : PySem.W.Looks M h (bindArgs fd ⟨us, ks.zip ws⟩) (bindP pos kwo ks us ws its kwd) := by
  simp only [bndOk, Bool.and_eq_true, decide_eq_true_eq] at c
  obtain ⟨⟨⟨⟨c1, c2⟩, c3⟩, c4⟩, c5⟩ := c
  unfold bindArgs
  simp only [hv, hk, hpo, hn, ho, hp]
  rw [kw_loop (ok := fun k => nor.contains k || kwo.contains k) (fun x s hx hl => by
    rw [if_pos hx, if_neg (by rw [hl]; simp)]) _ _ c3, pure_bind]
  obtain ⟨oa, l1, rfl⟩ := hd
  refine l1.andThen ?_
  have d0 : (oa.getD #[]).toList.length - pos.length = 0 := Nat.sub_eq_zero_of_le c2
  rw [if_neg (by simp; omega)]
  simp only [d0, List.drop_zero]
  have e4 : ((pos.take (pos.length - (oa.getD #[]).toList.length)).filter fun n => (List.lookup n (pos.zip us ++ ks.zip ws)).isNone) = [] := by
    rw [List.filter_eq_nil_iff]
    intro n hm
    have := List.all_eq_true.mp c4 n hm
    simpa [Option.isNone_iff_eq_none, Option.isSome_iff_ne_none] using this
  rw [e4]
  simp only [List.isEmpty_nil, Bool.not_true, Bool.false_eq_true, if_false]
  rw [fd_loop (fun x s => rfl), pure_bind]
  refine (kd_loop (kwd := kwd) ?_ ?_ kwo _ c5).andThen ?_
  · intro n s v hl
    rw [if_neg (by rw [hl]; simp)]
  · intro n s v hl hk2
    rw [if_pos (by rw [hl]; rfl)]
    obtain ⟨d, e1, l2⟩ := hkw n v hk2
    rw [e1]
    exact l2.andThen (.of_pure rfl)
  · simp only [List.isEmpty_nil, Bool.not_true, Bool.false_eq_true, if_false]
    exact .of_pure rfl
end Pm
end
section
set_option Elab.async false
set_option linter.all false
set_option maxHeartbeats 2000000
/-! Pm16: the program as a datum; each def's calls bind; each def does what the small evaluator says. -/
namespace Pm
open PySem PySem.Spec PyProof.Rows L2

/-- a def of the program -/
structure PD where
  key : String
  cls : Option String
  name : Str
  qual : Str
  params : Arguments
  body : List Stmt
  scope : Scope
  N : List Str
  ps : List Str
  dfl : List Dfl
  kwd : List (Str × Dfl)
  fn : Fn
def PD.at_ (p : PD) : Str × Option Str := match p.cls with
  | none => (p.name, none)
  | some C => (Str.ofString C, some p.name)
/-- a keyword default's place -/
def kdAt (f : Str × Option Str) (x : Str) (K : PySem.W.Frag) : Addr := match K.lookup (He.fAd K f) with
  | some ⟨_, _, .func fd, _⟩ => (match fd.kwdefaults with
    | .ref d => (match PySem.W.nsIn K d x with
      | some (some (.ref a)) => a
      | _ => 0)
    | _ => 0)
  | _ => 0
def dvP (f : Str × Option Str) (i : Nat) : Dfl → He.Dv
  | .non => .non
  | .int k => .int k
  | .tup0 => .adr (He.dflAt f i)
def dvK (f : Str × Option Str) (x : Str) : Dfl → He.Dv
  | .non => .non
  | .int k => .int k
  | .tup0 => .adr (kdAt f x)
def dvPs (f : Str × Option Str) : Nat → List Dfl → List He.Dv
  | _, [] => []
  | i, d :: ds => dvP f i d :: dvPs f (i + 1) ds
def PD.d (p : PD) : He.DefD := ⟨p.at_, p.name, p.qual, p.params, p.body, p.scope, dvPs p.at_ 0 p.dfl, p.kwd.map fun q => (q.1, dvK p.at_ q.1 q.2)⟩
/-- all defaults -/
def PD.ds (p : PD) : List Dfl := p.dfl ++ p.kwd.map (·.2)
def PD.dvs (p : PD) (K : PySem.W.Frag) : List V := p.d.dvs K ++ (p.d.kws K).map (·.2)
def PD.pos (p : PD) : List Str := p.params.posonlyargs.map (·.arg) ++ p.params.args.map (·.arg)
def PD.nor (p : PD) : List Str := p.params.args.map (·.arg)
def PD.kwo (p : PD) : List Str := p.params.kwonlyargs.map (·.arg)
abbrev Sy := Sum Nat Nat
def syI (a n : Nat) : List Sy := (List.range n).map fun i => .inl (a + i)
def syD (a n : Nat) : List Sy := (List.range n).map fun i => .inr (a + i)
def PD.res (p : PD) (n : Nat) (ks : List Str) : List (Str × Sy) := bindP p.pos p.kwo ks (syI 0 n) (syI n ks.length) (syD 0 p.dfl.length) ((p.kwd.map (·.1)).zip (syD p.dfl.length p.kwd.length))
def toB (ds : List Dfl) : Sy → Sum Nat Dfl
  | .inl i => .inl i
  | .inr j => .inr (ds.getD j .non)
/-- a call's shape is understood -/
def PD.shC (p : PD) (n : Nat) (ks : List Str) (bd : List (Sum Nat Dfl)) : Bool :=
  p.params.vararg.isNone && p.params.kwarg.isNone && bndOk p.pos p.kwo ks (fun k => p.nor.contains k || p.kwo.contains k) (syI 0 n) (syI n ks.length) (syD 0 p.dfl.length) ((p.kwd.map (·.1)).zip (syD p.dfl.length p.kwd.length)) &&
  (p.res n ks).all (fun q => match q.2 with | .inr j => decide (j < p.ds.length) | _ => true) && decide ((p.res n ks).map (·.1) = p.ps) && decide ((p.res n ks).map (fun q => toB p.ds q.2) = bd)
def shB : Sum Nat Dfl → Sum Nat Dfl
  | .inl i => .inl (i + 1)
  | .inr d => .inr d

section
variable {α : Type}
def valS (df : α) (xs ds : List α) : Sy → α
  | .inl i => xs.getD i df
  | .inr j => ds.getD j df
theorem syI_val {df : α} {a b ds : List α} {n : Nat} (h : b.length = n) : (syI a.length n).map (valS df (a ++ b) ds) = b := by
  unfold syI
  rw [List.map_map]
  refine List.ext_getElem (by simp [h]) fun i h1 h2 => ?_
  simp only [List.getElem_map, List.getElem_range, Function.comp, valS]
  rw [List.getD_eq_getElem?_getD, List.getElem?_append_right (by omega), Nat.add_sub_cancel_left, List.getElem?_eq_getElem h2]
  rfl
theorem syD_val {df : α} {xs a b : List α} {n : Nat} (h : b.length = n) : (syD a.length n).map (valS df xs (a ++ b)) = b := by
  unfold syD
  rw [List.map_map]
  refine List.ext_getElem (by simp [h]) fun i h1 h2 => ?_
  simp only [List.getElem_map, List.getElem_range, Function.comp, valS]
  rw [List.getD_eq_getElem?_getD, List.getElem?_append_right (by omega), Nat.add_sub_cancel_left, List.getElem?_eq_getElem h2]
  rfl
theorem syI_val0 {df : α} {a b ds : List α} {n : Nat} (h : a.length = n) : (syI 0 n).map (valS df (a ++ b) ds) = a := by
  unfold syI
  rw [List.map_map]
  refine List.ext_getElem (by simp [h]) fun i h1 h2 => ?_
  simp only [List.getElem_map, List.getElem_range, Function.comp, valS, Nat.zero_add]
  rw [List.getD_eq_getElem?_getD, List.getElem?_append_left h2, List.getElem?_eq_getElem h2]
  rfl
theorem syD_val0 {df : α} {xs a b : List α} {n : Nat} (h : a.length = n) : (syD 0 n).map (valS df xs (a ++ b)) = a := by
  unfold syD
  rw [List.map_map]
  refine List.ext_getElem (by simp [h]) fun i h1 h2 => ?_
  simp only [List.getElem_map, List.getElem_range, Function.comp, valS, Nat.zero_add]
  rw [List.getD_eq_getElem?_getD, List.getElem?_append_left h2, List.getElem?_eq_getElem h2]
  rfl
/-- values by their symbols -/
theorem bind_sy {df : α} {pos kwo ks kn : List Str} {us ws its kv : List α} {n dl kl : Nat} (h1 : us.length = n) (h2 : ws.length = ks.length) (h3 : its.length = dl) (h4 : kv.length = kl) :
    bindP pos kwo ks us ws its (kn.zip kv) = (bindP pos kwo ks (syI 0 n) (syI n ks.length) (syD 0 dl) (kn.zip (syD dl kl))).map (mV (valS df (us ++ ws) (its ++ kv))) := by
  rw [← bindP_mV, syI_val0 h1, syD_val0 h3, ← zip_mV, ← h3, syD_val h4, ← h1, syI_val h2]
theorem ok_sy {df : α} {pos kwo ks kn : List Str} {ok : Str → Bool} {us ws its kv : List α} {n dl kl : Nat} (h1 : us.length = n) (h2 : ws.length = ks.length) (h3 : its.length = dl) (h4 : kv.length = kl) :
    bndOk pos kwo ks ok us ws its (kn.zip kv) = bndOk pos kwo ks ok (syI 0 n) (syI n ks.length) (syD 0 dl) (kn.zip (syD dl kl)) := by
  rw [← bndOk_mV (valS df (us ++ ws) (its ++ kv)), syI_val0 h1, syD_val0 h3, ← zip_mV, ← h3, syD_val h4, ← h1, syI_val h2]
end
theorem zip_back {α β : Type} {γ : Type} {φ : β → γ} : ∀ (l : List (α × β)), (l.map fun q => (q.1, φ q.2)) = (l.map (·.1)).zip ((l.map (·.2)).map φ)
  | [] => rfl
  | q :: l => by simp only [List.map_cons, List.zip_cons_cons]; rw [← zip_back l]
theorem dvPs_len {f : Str × Option Str} : ∀ {ds : List Dfl} {i : Nat}, (dvPs f i ds).length = ds.length
  | [], _ => rfl
  | _ :: ds, i => by simp [dvPs, dvPs_len (ds := ds)]
theorem vals_getD {df : V} {du : Value} (h : RelV df du) : ∀ {vs : List V} {us : List Value}, Vals vs us → ∀ i : Nat, RelV (vs.getD i df) (us.getD i du)
  | [], [], _, i => by simpa using h
  | v :: vs, u :: us, .cons r t, 0 => by simpa using r
  | v :: vs, u :: us, .cons r t, i + 1 => by simpa using vals_getD h t i
theorem vals_sy {vs dv : List V} {us du : List Value} (h : Vals vs us) (h2 : Vals dv du) : ∀ sy : List Sy, Vals (sy.map (valS .non vs dv)) (sy.map (valS .none us du))
  | [] => .nil
  | .inl i :: r => .cons (vals_getD (by rfl) h i) (vals_sy h h2 r)
  | .inr j :: r => .cons (vals_getD (by rfl) h2 j) (vals_sy h h2 r)
/-- a def's calls of a shape -/
theorem kbn_of {K : PySem.W.Frag} {p : PD} {f : Addr} {fd : FuncData} {n : Nat} {ks : List Str} {bd : List (Sum Nat Dfl)} (F : FunD K p.name p.qual p.params p.body p.scope (p.d.dvs K) (p.d.kws K) f fd) (c : p.shC n ks bd = true) :
    ∃ g, KBn K fd p.ps n ks g (fun vs vz => ((p.res n ks).map (·.2)).map (valS .non (vs ++ vz) (p.dvs K))) := by
  obtain ⟨oc, od, dV, kV, doc, pm, an, cdv, ct, osl, rfl, lk, hcd, hD, hK⟩ := F.ex
  simp only [PD.shC, Bool.and_eq_true, decide_eq_true_eq, Option.isNone_iff_eq_none] at c
  obtain ⟨⟨⟨⟨⟨c1, c2⟩, c3⟩, c6⟩, c4⟩, c5⟩ := c
  have ld : (p.d.dvs K).length = p.dfl.length := by
    show ((dvPs p.at_ 0 p.dfl).map _).length = _
    rw [List.length_map, dvPs_len]
  have lk2 : (p.d.kws K).length = p.kwd.length := by
    show ((p.kwd.map _).map _).length = _
    rw [List.length_map, List.length_map]
  have nk : (p.d.kws K).map (·.1) = p.kwd.map (·.1) := by
    show ((p.kwd.map _).map _).map _ = _
    rw [List.map_map, List.map_map]
    rfl
  -- the defaults' values
  obtain ⟨its, rI, hI⟩ : ∃ its : List Value, Vals (p.d.dvs K) its ∧ ∀ M h, K.In h → ∃ oa, PySem.W.Looks M h (seqItems? dV) oa ∧ (oa.getD #[]).toList = its := by
    rcases hD with ⟨e, rfl⟩ | ⟨e, T, o, its, m, rfl, lT, oT, rT⟩
    · exact ⟨[], by rw [e]; exact .nil, fun M h _ => ⟨none, .of_pure rfl, rfl⟩⟩
    · refine ⟨its, rT, fun M h X => ⟨some its.toArray, ?_, by simp⟩⟩
      have := looks_items (M := M) (k := pure) (r := some its.toArray) X lT oT .now
      simpa using this
  obtain ⟨kv, lkv, rK, hKv⟩ : ∃ kv : List Value, kv.length = p.kwd.length ∧ Vals ((p.d.kws K).map (·.2)) kv ∧ (∀ M h, K.In h → ∀ nm v, ((p.kwd.map (·.1)).zip kv).lookup nm = some v → ∃ d, kV = .ref d ∧ PySem.W.Looks M h (nsGet d nm) (some v)) := by
    rcases hK with e | ⟨Dd, rfl, hq⟩
    · have e0 : p.kwd = [] := List.eq_nil_of_length_eq_zero (by rw [← lk2, e]; rfl)
      exact ⟨[], by rw [e0]; rfl, by rw [e]; exact .nil, fun M h _ nm v hl => by rw [e0] at hl; cases hl⟩
    · obtain ⟨kv, l, r, a⟩ := kwd_vals hq
      refine ⟨kv, l.trans lk2, r, fun M h X nm v hl => ⟨Dd, rfl, PySem.W.looks_nsIn X ?_⟩⟩
      rw [← nk] at hl
      exact a (nm, v) (PySem.mem_of_lookup hl)
  have lI : its.length = p.dfl.length := rI.length.symm.trans ld
  refine ⟨fun us ws => ((p.res n ks).map (·.2)).map (valS .none (us ++ ws) (its ++ kv)), ⟨fun s us ws X l1 l2 => ?_, fun {vs us zs ws} r1 r2 => vals_sy (r1.append r2) (rI.append rK) _⟩⟩
  refine BindsTo.of_looks fun M => ?_
  have key := bind_looks (M := M) (h := s.heap) (fd := PySem.W.fnOf p.name p.qual p.params p.body p.scope dV kV doc pm an cdv ct) (po := p.params.posonlyargs.map (·.arg)) (pos := p.pos) (nor := p.nor) (kwo := p.kwo) (ks := ks) (us := us) (ws := ws) (its := its) (kwd := (p.kwd.map (·.1)).zip kv)
    c1 c2 rfl rfl rfl rfl (hI M _ X) (hKv M _ X) (by rw [ok_sy (df := Value.none) l1 l2 lI lkv]; exact c3)
  rw [bind_sy (df := Value.none) l1 l2 lI lkv] at key
  have e : (p.res n ks).map (mV (valS .none (us ++ ws) (its ++ kv))) = p.ps.zip (((p.res n ks).map (·.2)).map (valS .none (us ++ ws) (its ++ kv))) := by
    rw [← c4, ← zip_back]
    rfl
  rw [← e]
  exact key
/-- .. and what they bind -/
theorem bind_rep {G : Gx} {ds : List Dfl} {dv : List V} (hd : ∀ j d, ds[j]? = some d → ∀ Z H, Rep G Z H d.w (dv.getD j .non)) {B : List Addr} {ρ : Nat → Addr} {S : Sto} {H : Hp} {xs : List U} {vs : List V} (r : RepUs G B ρ S H xs vs) :
    ∀ {sy : List Sy} {us2 : List U}, (∀ j, Sum.inr j ∈ sy → j < ds.length) → bindA (sy.map (toB ds)) xs = some us2 → RepUs G B ρ S H us2 (sy.map (valS .non vs dv))
  | [], us2, _, e => by
    simp only [List.map_nil, bindA, Option.some.injEq] at e
    subst e
    rfl
  | .inl i :: sy, us2, hj, e => by
    simp only [List.map_cons, toB, bindA, Option.bind_eq_some_iff, Option.map_eq_some_iff] at e
    obtain ⟨u, e1, us3, e2, rfl⟩ := e
    obtain ⟨v, e3, rv⟩ := r.get e1
    refine ⟨_, _, rfl, ?_, bind_rep hd r (fun j h => hj j (List.mem_cons_of_mem _ h)) e2⟩
    simp only [valS, List.getD_eq_getElem?_getD, e3]
    exact rv
  | .inr j :: sy, us2, hj, e => by
    simp only [List.map_cons, toB, bindA, Option.map_eq_some_iff] at e
    obtain ⟨us3, e2, rfl⟩ := e
    refine ⟨_, _, rfl, ?_, bind_rep hd r (fun j h => hj j (List.mem_cons_of_mem _ h)) e2⟩
    have hl := hj j (by simp)
    have e4 : ds[j]? = some (ds.getD j .non) := by rw [List.getD_eq_getElem?_getD, List.getElem?_eq_getElem hl]; rfl
    exact hd j _ e4 _ _
theorem shC_j {p : PD} {n : Nat} {ks : List Str} {bd : List (Sum Nat Dfl)} (c : p.shC n ks bd = true) : (∀ j, Sum.inr j ∈ (p.res n ks).map (·.2) → j < p.ds.length) ∧ ((p.res n ks).map (·.2)).map (toB p.ds) = bd := by
  simp only [PD.shC, Bool.and_eq_true, decide_eq_true_eq] at c
  obtain ⟨⟨⟨⟨⟨c1, c2⟩, c3⟩, c6⟩, c4⟩, c5⟩ := c
  refine ⟨fun j h => ?_, by rw [List.map_map]; exact c5⟩
  obtain ⟨q, hq, e⟩ := List.mem_map.mp h
  have := List.all_eq_true.mp c6 q hq
  rw [e] at this
  exact of_decide_eq_true this

theorem RepUs.app {G : Gx} {B : List Addr} {ρ : Nat → Addr} {S : Sto} {H : Hp} : ∀ {us zs : List U} {vs vz : List V}, RepUs G B ρ S H us vs → RepUs G B ρ S H zs vz → RepUs G B ρ S H (us ++ zs) (vs ++ vz)
  | [], _, _, _, h, h' => by simp only [RepUs] at h; subst h; exact h'
  | u :: us, _, _, _, h, h' => by
    obtain ⟨v, r, rfl, h1, h2⟩ := h
    exact ⟨v, _, rfl, h1, RepUs.app h2 h'⟩
/-! ### the program -/
structure PG0 where
  pds : List PD
  cls : List String
  mkc : List String
  free : List Str
  flds : List Str
  tys : List String
  globs : List (String × W)
  shp : List (String × Nat × List Str × List (Sum Nat Dfl))
  wh : Nat
def PG0.find (g : PG0) (k : String) : Option PD := g.pds.find? fun p => p.key == k
def PG0.D (g : PG0) : Ds where
  fname := fun f => (g.find f).bind fun p => match p.cls with
    | none => some p.name
    | some _ => none
  meth := fun f => (g.find f).bind fun p => match p.cls with
    | none => none
    | some C => if p.name = "__init__" then none else some (C, p.name)
  cname := fun C => if g.mkc.contains C = true then some (Str.ofString C) else none
  shp := g.shp
  free := g.free
  flds := g.flds
  tys := g.tys
  globs := g.globs.map (·.1)
def PG0.P (g : PG0) : Pg := ⟨fun k => (g.find k).map (·.fn), fun x => g.globs.lookup x, g.wh⟩
def PG0.G (g : PG0) (K : PySem.W.Frag) : Gx := ⟨K, fun C => if g.cls.contains C = true then some (He.ga K (Str.ofString C)) else none⟩
def scopeB (N ps : List Str) (sc : Scope) : Bool := (match sc.kind with | .function => true | _ => false) && !sc.isCoroutine && !sc.isGenerator && decide N.Nodup && decide (N.take ps.length = ps) &&
  ps.all (fun x => locB sc x) && sc.names.all fun y => match y.2 with | .free => false | _ => true
def PD.okB (D : Ds) (p : PD) : Bool := chkB D p.N p.scope p.fn.body (docFree p.body) && scopeB p.N p.ps p.scope && decide (p.fn.np = p.ps.length) && decide (p.fn.n = p.N.length)
def PG0.shOk (g : PG0) (f : String) (n : Nat) (ks : List Str) (bd : List (Sum Nat Dfl)) : Bool := match g.find f with
  | some p => (match p.cls with
    | none => p.shC n ks bd
    | some _ => p.shC (n + 1) ks bd)
  | none => (match g.find (f ++ ".__init__") with
    | some p => decide (p.cls = some f) && decide (p.name = "__init__") && p.shC (n + 1) ks (.inl 0 :: bd.map shB)
    | none => false)
def PG0.spOk (g : PG0) : Bool := g.cls.all fun C => specN.all fun q => match g.find (C ++ q.1) with
  | none => true
  | some p => decide (p.cls = some C) && decide (p.name = Str.ofString q.2.1) && p.shC q.2.2 [] ((List.range q.2.2).map .inl)
def PG0.ok (g : PG0) : Bool := g.spOk && g.pds.all (fun p => p.okB g.D) && g.shp.all (fun q => g.shOk q.1 q.2.1 q.2.2.1 q.2.2.2) && g.mkc.all (fun C => (g.find C).isNone)
/-- what the head tells -/
structure PF (g : PG0) (K : PySem.W.Frag) (mg : Str → Option Value) : Prop where
  funD : ∀ p ∈ g.pds, ∃ fd, FunD K p.name p.qual p.params p.body p.scope (p.d.dvs K) (p.d.kws K) (He.fAd K p.at_) fd
  dfl : ∀ p ∈ g.pds, ∀ j d, p.ds[j]? = some d → ∀ Z H, Rep (g.G K) Z H d.w ((p.dvs K).getD j .non)
  free : ∀ x, g.free.contains x = true → mg x = none
  glb : ∀ x w, g.globs.lookup x = some w → ∃ u v, mg (Str.ofString x) = some u ∧ RelV v u ∧ ∀ Z H, Rep (g.G K) Z H w v
  tys : ∀ t, g.tys.contains t = true → (∃ Ca, (g.G K).cA t = some Ca ∧ mg (Str.ofString t) = some (.ref Ca)) ∨ ((g.G K).cA t = none ∧ mg (Str.ofString t) = none ∧ bootBuiltins (Str.ofString t) = some (.type t) ∧ Str.ofString t ≠ "__name__" ∧ (Str.ofString t == ("__debug__" : Str)) = false)
  tyd : ∀ t, g.tys.contains t = true → (Str.ofString t == ("__debug__" : Str)) = false
  kit : ∀ t c, tagOk (g.G K) t → g.tys.contains c = true → PySem.W.kitOne K (tvG (g.G K) t) (tvG (g.G K) c) = some (subT t c)
  tag0 : ∀ t ∈ ["NoneType", "bool", "int", "str", "tuple", "list", "dict"], (g.G K).cA t = none
  own : ∀ C Ca, (g.G K).cA C = some Ca → OwnF g.D K Ca
  gl : ∀ p ∈ g.pds, p.cls = none → mg p.name = some (.ref (He.fAd K p.at_))
  me : ∀ p ∈ g.pds, ∀ C, p.cls = some C → p.name ≠ "__init__" → ∃ Ca, (g.G K).cA C = some Ca ∧ Meth K Ca p.name (He.fAd K p.at_)
  mkf : ∀ p ∈ g.pds, ∀ C, p.cls = some C → p.name = "__init__" → g.mkc.contains C = true → ∃ Ca, (g.G K).cA C = some Ca ∧ mg (Str.ofString C) = some (.ref Ca) ∧ Mk K Ca (He.fAd K p.at_)
theorem find_mem {g : PG0} {k : String} {p : PD} (h : g.find k = some p) : p ∈ g.pds ∧ p.key = k := by
  unfold PG0.find at h
  exact ⟨List.mem_of_find?_eq_some h, by have := List.find?_some h; simpa using this⟩
theorem bind_shift {u0 : U} : ∀ {bd : List (Sum Nat Dfl)} {xs us2 : List U}, bindA bd xs = some us2 → bindA (bd.map shB) (u0 :: xs) = some us2
  | [], _, _, h => by simpa [bindA] using h
  | .inl i :: r, xs, us2, h => by
    simp only [bindA, Option.bind_eq_some_iff, Option.map_eq_some_iff] at h
    obtain ⟨u, e1, us3, e2, rfl⟩ := h
    simp only [List.map_cons, shB, bindA, Option.bind_eq_some_iff, Option.map_eq_some_iff]
    exact ⟨u, by simpa using e1, us3, bind_shift e2, rfl⟩
  | .inr d :: r, xs, us2, h => by
    simp only [bindA, Option.map_eq_some_iff] at h
    obtain ⟨us3, e2, rfl⟩ := h
    simp only [List.map_cons, shB, bindA, Option.map_eq_some_iff]
    exact ⟨us3, bind_shift e2, rfl⟩
theorem scope_ok {N ps : List Str} {sc : Scope} (h : scopeB N ps sc = true) : FnScope N ps sc := by
  simp only [scopeB, Bool.and_eq_true, Bool.not_eq_true', decide_eq_true_eq, List.all_eq_true] at h
  obtain ⟨⟨⟨⟨⟨⟨h1, h2⟩, h3⟩, h4⟩, h5⟩, h6⟩, h7⟩ := h
  refine ⟨?_, h2, h3, h4, h5, fun x hx => loc_of (h6 x hx), fun y hy e => ?_⟩
  · split at h1
    · assumption
    · cases h1
  · have := h7 y hy
    rw [e] at this
    cases this
/-- what a def hands back -/
theorem fin_ok {G : Gx} {B : List Addr} {ρ ρ' : Nat → Addr} {S S' : Sto} {H H' : Hp} {keep : Bool} {u : U} {v : V} {Q : VK} (s : Stp ρ S H ρ' S' H') (R : RelS G B ρ' S' H') (r : RepU G B ρ' S' H' u v)
    (q : FinG G B (RpU G) Q ρ S H (finU keep S.length u S')) : Q v H' := by
  obtain ⟨Rt, st⟩ := R.takeN S.length
  have ht : (S'.take S.length).length = S.length := by have := s.len; simp; omega
  cases u with
  | p w => exact q v ρ' H' s.takeN Rt (Rep.stay st r)
  | loc m =>
    obtain ⟨h1, rfl⟩ := r
    simp only [finU] at q
    by_cases hm : m < S.length
    · rw [if_pos hm] at q
      exact q _ ρ' H' s.takeN Rt ⟨by rw [ht]; exact hm, rfl⟩
    · rw [if_neg hm] at q
      cases e : S'[m]? with
      | none => simp only [e] at q; exact q.elim
      | some o =>
        cases o with
        | none => simp only [e] at q; exact q.elim
        | some o =>
          simp only [e] at q
          cases keep with
          | false => exact q _ ρ' H' s.takeN Rt (RepM.frz ((R.at_ m o e).stay st rfl) (R.take_z (by omega) e))
          | true =>
            have live : ∀ k o', (S'.take S.length ++ [some o])[k]? = some (some o') → (k = S.length ∧ o' = o) ∨ (k < S.length ∧ S'[k]? = some (some o')) := fun k o' h => by
              rcases app_live (S := S'.take S.length) k o' h with ⟨h1, h2⟩ | ⟨h1, h2⟩
              · exact .inl ⟨by rw [h1, ht], h2⟩
              · rw [List.getElem?_take] at h2
                split at h2
                · rename_i hk
                  exact .inr ⟨hk, h2⟩
                · cases h2
            have mu : ∀ a, Mu (fun k => if k = S.length then ρ' m else ρ' k) (S'.take S.length ++ [some o]) a → Mu ρ' S' a := fun a ⟨k, o', h, z⟩ => by
              dsimp only at z
              rcases live k o' h with ⟨rfl, rfl⟩ | ⟨h1, h2⟩
              · rw [if_pos rfl] at z
                exact ⟨m, o', e, z⟩
              · rw [if_neg (by omega)] at z
                exact ⟨k, o', h2, z⟩
            have st2 : Stay G (Zf B ρ' S') (Zf B (fun k => if k = S.length then ρ' m else ρ' k) (S'.take S.length ++ [some o])) H' H' := ⟨fun _ _ z => z, fun a _ z e => ⟨e, fun h => z.1 (mu a h), z.2⟩⟩
            refine q _ (fun k => if k = S.length then ρ' m else ρ' k) H' ⟨by simp; omega, fun k hk => ⟨fun o' h => ?_, ?_⟩, fun a o' h mm => ?_⟩ ⟨fun k o' h => ?_, fun k j o1 o2 h1 h2 z => ?_, R.bs, fun k o' h hb => ?_⟩ ⟨by simp; omega, by simp⟩
            · rcases live k o' h with ⟨rfl, _⟩ | ⟨_, h2⟩
              · exact absurd hk (by omega)
              · exact (s.loc k hk o' h2).1
            · rw [if_neg (by omega)]
              exact (s.loc0 k hk).2
            · obtain ⟨a1, a2⟩ := s.keep a o' h mm
              exact ⟨a1, fun z => a2 (mu a z)⟩
            · rcases live k o' h with ⟨rfl, rfl⟩ | ⟨h1, h2⟩
              · simp only [if_true]
                exact (R.at_ m o' e).stay st2 rfl
              · rw [if_neg (by omega)]
                exact (R.at_ k o' h2).stay st2 rfl
            · rcases live k o1 h1 with ⟨rfl, rfl⟩ | ⟨k1, k2⟩ <;> rcases live j o2 h2 with ⟨rfl, _⟩ | ⟨j1, j2⟩
              · rfl
              · try dsimp only at z
                rw [if_pos rfl, if_neg (by omega)] at z
                have := R.inj m j _ _ e j2 z
                omega
              · try dsimp only at z
                rw [if_neg (by omega), if_pos rfl] at z
                have := R.inj k m _ _ k2 e z
                omega
              · try dsimp only at z
                rw [if_neg (by omega), if_neg (by omega)] at z
                exact R.inj k j _ _ k2 j2 z
            · rcases live k o' h with ⟨rfl, rfl⟩ | ⟨h1, h2⟩
              · simp only [if_true] at hb
                exact R.nb m _ e hb
              · rw [if_neg (by omega)] at hb
                exact R.nb k o' h2 hb
theorem start_rel {G : Gx} {B : List Addr} {ρ : Nat → Addr} {S : Sto} {H : Hp} {us : List U} {vs : List V} {m : Nat} (r : RepUs G B ρ S H us vs) : RelL G B ρ S H (us.map some ++ List.replicate m none) (vs.map some ++ List.replicate m none) := by
  refine ⟨by simp [r.length], fun i u e => ?_⟩
  by_cases hi : i < us.length
  · rw [List.getElem?_append_left (by simpa using hi), List.getElem?_map, Option.map_eq_some_iff] at e
    obtain ⟨u', e1, e2⟩ := e
    cases e2
    obtain ⟨v, e3, rv⟩ := r.get e1
    exact ⟨v, by rw [List.getElem?_append_left (by rw [List.length_map, r.length]; exact hi), List.getElem?_map, e3]; rfl, rv⟩
  · rw [List.getElem?_append_right (by simp; omega)] at e
    rw [List.getElem?_replicate] at e
    split at e <;> cases e
section
variable {g : PG0} {P : Program} {w : World} {K : PySem.W.Frag} {mg : Str → Option Value} {base : Heap}
theorem doc_snd {G : Gx} {F : Cf} {D : Ds} {X : Cx} {N : List Str} {sc : Scope} {b : List Stx} (x0 : XS G F D X N sc) {body : List Stmt} (h : chkB D N sc b (docFree body) = true) : ∃ t, PSs X body t ∧ ∀ E σ H, rdS G (evB F b) E σ H → t E σ H := by
  unfold docFree at h
  split at h
  · exact ⟨_, pss_cons ps_doc (sndB b x0 h), fun E σ H q => q⟩
  · exact ⟨_, sndB b x0 h, fun E σ H q => q⟩
theorem beq_sum {a b : Nat ⊕ Dfl} : (a == b) = true ↔ a = b := by
  cases a with
  | inl x => cases b with
    | inl y => exact Iff.trans (show (Sum.instBEq.beq (Sum.inl x) (Sum.inl y) = true) ↔ (x == y) = true from Iff.rfl) (by simp)
    | inr y => exact ⟨fun h => Bool.noConfusion (show false = true from h), fun h => by cases h⟩
  | inr x => cases b with
    | inl y => exact ⟨fun h => Bool.noConfusion (show false = true from h), fun h => by cases h⟩
    | inr y => exact Iff.trans (show (Sum.instBEq.beq (Sum.inr x) (Sum.inr y) = true) ↔ (x == y) = true from Iff.rfl) (by simp)
instance : LawfulBEq (Nat ⊕ Dfl) where
  eq_of_beq := beq_sum.mp
  rfl := beq_sum.mpr rfl
/-- every def does what the small evaluator says -/
theorem fn_sound (hg : g.ok = true) (pf : PF g K mg) : ∀ (k : Nat) (f : String) (p : PD), g.find f = some p → ∀ fd, FunD K p.name p.qual p.params p.body p.scope (p.d.dvs K) (p.d.kws K) (He.fAd K p.at_) fd →
    FnG P w K mg base (2 * k) (He.fAd K p.at_) fd p.ps (spC (g.G K) (callM g.P k f))
  | 0, f, p, hp, fd, Fd => by
    have no : ∀ vs H Q E, ¬ spC (g.G K) (callM g.P 0 f) vs H Q E := by
      rintro vs H Q E ⟨B, ρ, S, us, R, r, q⟩
      exact q
    exact ⟨fun vs H Q E h => (no vs H Q E h).elim, fun A outer s H args us vs Q E _ _ _ _ _ h => (no vs H Q E h).elim⟩
  | k + 1, f, p, hp, fd, Fd => by
    obtain ⟨hm, hk⟩ := find_mem hp
    have hg0 := hg
    simp only [PG0.ok, Bool.and_eq_true] at hg
    obtain ⟨⟨⟨g0, g1⟩, g2⟩, g3⟩ := hg
    rw [List.all_eq_true] at g1 g2 g3
    have okp := g1 p hm
    simp only [PD.okB, Bool.and_eq_true, decide_eq_true_eq] at okp
    obtain ⟨⟨⟨o1, o2⟩, o3⟩, o4⟩ := okp
    have sc := scope_ok o2
    have hcall : callM g.P (k + 1) f = runFn ⟨callM g.P k, g.P.glob, g.P.wh⟩ p.fn := by
      funext us
      have : g.P.fn f = some p.fn := by show (g.find f).map (·.fn) = _; rw [hp]; rfl
      simp only [callM, this]
    have hlen : ∀ vs H Q E, spC (g.G K) (callM g.P (k + 1) f) vs H Q E → ∃ us : List U, us.length = p.fn.np ∧ vs.length = us.length := by
      rintro vs H Q E ⟨B, ρ, S, us, R, r, q⟩
      rw [hcall] at q
      unfold runFn at q
      by_cases hl : us.length = p.fn.np
      · exact ⟨us, hl, r.length⟩
      · rw [if_neg hl] at q; exact q.elim
    refine FunD.okG (k := 2 * k + 1) Fd sc (fun vs H Q E h => ?_) fun cdv A outer s H vs Q E gd hr h => ?_
    · obtain ⟨us, l1, l2⟩ := hlen vs H Q E h
      rw [l2, l1, o3]
    · have X : XS (g.G K) ⟨callM g.P k, g.P.glob, g.P.wh⟩ g.D (cxOf CX0 P w K mg base p.N p.qual p.scope (He.fAd K p.at_) cdv A outer s H E).nox p.N p.scope := by
        have shp : ∀ f n ks bd, g.D.shp.contains (f, n, ks, bd) = true → g.shOk f n ks bd = true := fun f n ks bd h => g2 (f, n, ks, bd) (List.contains_iff_mem.mp h)
        refine { kk := rfl, nn := rfl, ss := fun x k h => .inl h, nd := sc.nd, calm := rfl, un := ?_, gd := gd, fnok := fun _ _ => rfl, free := pf.free, glb := fun x _ w h => pf.glb x w h, tys := pf.tys, tyd := pf.tyd, kit := pf.kit, tag0 := pf.tag0, own := pf.own, spec := ?_, fcall := ?_, fmeth := ?_, fnew := ?_, sq := rfl, kd := sc.kind, nx := rfl }
        · have := hr.un
          show (A.deeper _).units + 128 < cLine
          omega
        · intro f' x n ks bd e1 e2
          have s0 := shp f' n ks bd e2
          simp only [PG0.D, Option.bind_eq_some_iff] at e1
          obtain ⟨p', hp', e1⟩ := e1
          cases hc : p'.cls with
          | some C => simp only [hc] at e1; cases e1
          | none =>
            simp only [hc] at e1
            cases e1
            obtain ⟨hm', _⟩ := find_mem hp'
            obtain ⟨fd', F'⟩ := pf.funD p' hm'
            have s1 : p'.shC n ks bd = true := by
              unfold PG0.shOk at s0
              simp only [hp', hc] at s0
              exact s0
            obtain ⟨gg, kb⟩ := kbn_of F' s1
            obtain ⟨j1, j2⟩ := shC_j s1
            refine ⟨He.fAd K p'.at_, pf.gl p' hm' hc, F'.kp, fd', p'.ps, 2 * k, gg, _, fn_sound hg0 pf k f' p' hp' fd' F', hr.mono (by omega), kb, fun B ρ S H us zs vs vz us2 l r rz hb => ?_⟩
            refine bind_rep (pf.dfl p' hm') (xs := us ++ zs) (vs := vs ++ vz) (RepUs.app r rz) j1 ?_
            rw [j2]
            exact hb
        · intro f' C m n ks bd e1 e2
          have s0 := shp f' n ks bd e2
          simp only [PG0.D, Option.bind_eq_some_iff] at e1
          obtain ⟨p', hp', e1⟩ := e1
          cases hc : p'.cls with
          | none => simp only [hc] at e1; cases e1
          | some C' =>
            simp only [hc] at e1
            split at e1 <;> cases e1
            rename_i hne
            obtain ⟨hm', _⟩ := find_mem hp'
            obtain ⟨fd', F'⟩ := pf.funD p' hm'
            have s1 : p'.shC (n + 1) ks bd = true := by
              unfold PG0.shOk at s0
              simp only [hp', hc] at s0
              exact s0
            obtain ⟨gg, kb⟩ := kbn_of F' s1
            obtain ⟨j1, j2⟩ := shC_j s1
            obtain ⟨Ca, c1, c2⟩ := pf.me p' hm' _ hc hne
            refine ⟨He.fAd K p'.at_, Ca, c1, c2, fd', p'.ps, 2 * k, gg, _, fn_sound hg0 pf k f' p' hp' fd' F', hr.mono (by omega), kb, fun B ρ S H us zs vs vz us2 l r rz hb => ?_⟩
            refine bind_rep (pf.dfl p' hm') (xs := us ++ zs) (vs := vs ++ vz) (RepUs.app r rz) j1 ?_
            rw [j2]
            exact hb
        · intro C Ca q hq hc
          have hcl : g.cls.contains C = true := by
            by_cases hcc : g.cls.contains C = true
            · exact hcc
            · have : (g.G K).cA C = none := if_neg hcc
              rw [this] at hc
              cases hc
          have s0 := List.all_eq_true.mp (List.all_eq_true.mp g0 C (by simpa using hcl)) q hq
          cases hf : g.find (C ++ q.1) with
          | none =>
            refine .inl fun us => ?_
            cases k with
            | zero => rfl
            | succ k =>
              have : g.P.fn (C ++ q.1) = none := by show (g.find (C ++ q.1)).map (·.fn) = none; rw [hf]; rfl
              simp only [callM, this]
          | some p' =>
            simp only [hf, Bool.and_eq_true, decide_eq_true_eq] at s0
            obtain ⟨⟨s1, s2⟩, s3⟩ := s0
            obtain ⟨hm', _⟩ := find_mem hf
            obtain ⟨fd', F'⟩ := pf.funD p' hm'
            have hne : p'.name ≠ "__init__" := by
              rw [s2]
              simp only [specN, List.mem_cons, List.not_mem_nil, or_false] at hq
              rcases hq with rfl | rfl | rfl <;> decide
            obtain ⟨gg, kb⟩ := kbn_of F' s3
            obtain ⟨j1, j2⟩ := shC_j s3
            obtain ⟨Ca', c1, c2⟩ := pf.me p' hm' _ s1 hne
            rw [hc] at c1
            cases c1
            rw [s2] at c2
            refine .inr ⟨He.fAd K p'.at_, c2, fd', p'.ps, 2 * k, gg, _, fn_sound hg0 pf k _ p' hf fd' F', hr, kb, fun B ρ S H us vs l r => ?_⟩
            refine bind_rep (pf.dfl p' hm') (xs := us ++ []) (vs := vs ++ []) (RepUs.app r rfl) j1 ?_
            rw [j2, List.append_nil]
            simp only [specN, List.mem_cons, List.not_mem_nil, or_false] at hq
            rcases hq with rfl | rfl | rfl
            · match us, l with
              | [a], _ => rfl
            · match us, l with
              | [a], _ => rfl
            · match us, l with
              | [a, b], _ => rfl
        · intro C x n ks bd e1 e2
          have s0 := shp C n ks bd e2
          simp only [PG0.D] at e1
          split at e1 <;> cases e1
          rename_i hmk
          have hnone : g.find C = none := by
            have := g3 C (by simpa using hmk)
            simpa using this
          unfold PG0.shOk at s0
          simp only [hnone] at s0
          split at s0
          · rename_i p' hp'
            simp only [Bool.and_eq_true, decide_eq_true_eq] at s0
            obtain ⟨⟨hc, hnm⟩, s1⟩ := s0
            obtain ⟨hm', _⟩ := find_mem hp'
            obtain ⟨fd', F'⟩ := pf.funD p' hm'
            obtain ⟨gg, kb⟩ := kbn_of F' s1
            obtain ⟨j1, j2⟩ := shC_j s1
            obtain ⟨Ca, c1, c2, c3⟩ := pf.mkf p' hm' C hc hnm hmk
            refine ⟨He.fAd K p'.at_, Ca, c1, c2, c3, fd', p'.ps, 2 * k, gg, _, fn_sound hg0 pf k _ p' hp' fd' F', hr, kb, fun B ρ S H u0 v0 us zs vs vz us2 l r0 r rz hb => ?_⟩
            refine bind_rep (pf.dfl p' hm') (xs := (u0 :: us) ++ zs) (vs := (v0 :: vs) ++ vz) (RepUs.app (⟨_, _, rfl, r0, r⟩ : RepUs _ B ρ S H (u0 :: us) (v0 :: vs)) rz) j1 ?_
            rw [j2]
            simp only [bindA, List.cons_append, List.getElem?_cons_zero, Option.bind_some]
            rw [bind_shift hb]
            rfl
          · cases s0
      obtain ⟨t, T, ht⟩ := doc_snd X o1
      refine ⟨t, PSs.nox T, ht _ _ _ ?_⟩
      obtain ⟨us0, l1, l2⟩ := hlen vs H Q E h
      obtain ⟨B, ρ, S, us, R, r, q⟩ := h
      rw [hcall] at q
      unfold runFn at q
      by_cases hl : us.length = p.fn.np
      · rw [if_pos hl] at q
        have hN : p.N.length - vs.length = p.fn.n - p.fn.np := by rw [r.length, hl, o4]
        refine ⟨B, ρ, S, us.map some ++ List.replicate (p.fn.n - p.fn.np) none, R, ?_, ?_⟩
        · unfold L2.start
          rw [hN]
          exact start_rel r
        · revert q
          cases evB ⟨callM g.P k, g.P.glob, g.P.wh⟩ p.fn.body (us.map some ++ List.replicate (p.fn.n - p.fn.np) none) S with
          | err _ _ _ => exact fun q => q.elim
          | bad => exact fun q => q.elim
          | ok fl S' =>
            cases fl with
            | nx τ' => exact fun q σ' ρ' H' s R' L' => fin_ok (v := .non) s R' (by simp [RepU, Rep]) q
            | rt u => exact fun q v ρ' H' s R' r' => fin_ok s R' r' q
            | bk _ => exact fun q => q.elim
            | ct _ => exact fun q => q.elim
            | ex _ _ _ => exact fun q => q.elim
      · rw [if_neg hl] at q; exact q.elim
end
end Pm
end
section
set_option Elab.async false
set_option linter.all false
set_option maxRecDepth 100000
set_option maxHeartbeats 2000000
/-! Pm17: what the head tells; a law's end. -/
namespace Pm
open PySem PySem.Spec PyProof.Rows L2

/-! ### constants in the written part -/
mutual
def vK : W → Value → V
  | .bl b, _ => .bl b
  | .int i, _ => .int i
  | .str s, _ => .str s
  | .tup _, .ref a => .ref a
  | _, _ => .non
def cK (K : PySem.W.Frag) : W → Value → Bool
  | .non, .none => true
  | .bl b, .bool c => b == c
  | .int i, .int j _ => decide (i = j)
  | .str x, .str y _ => decide (x = y)
  | .tup ws, .ref a => (match K.lookup a with
    | some ⟨.type c, _, .seq its _, _⟩ => decide (c = "tuple") && decide (its.size ≤ sizeLine) && cKs K ws its.toList
    | _ => false)
  | _, _ => false
def cKs (K : PySem.W.Frag) : List W → List Value → Bool
  | [], [] => true
  | w :: ws, u :: us => cK K w u && cKs K ws us
  | _, _ => false
end
section
variable {K : PySem.W.Frag} {G : Gx}
mutual
theorem cK_ok (hG : G.K = K) : ∀ {w : W} {u : Value}, cK K w u = true → RelV (vK w u) u ∧ ∀ Z H, Rep G Z H w (vK w u)
  | .non, u, h => by
    cases u <;> simp only [cK, Bool.false_eq_true] at h
    exact ⟨rfl, fun Z H => by simp [Rep, vK]⟩
  | .bl b, u, h => by
    cases u <;> simp only [cK, Bool.false_eq_true] at h
    have := eq_of_beq h
    subst this
    exact ⟨rfl, fun Z H => by simp [Rep, vK]⟩
  | .int i, u, h => by
    cases u <;> simp only [cK, Bool.false_eq_true] at h
    have := of_decide_eq_true h
    subst this
    exact ⟨⟨_, rfl⟩, fun Z H => by simp [Rep, vK]⟩
  | .str i, u, h => by
    cases u <;> simp only [cK, Bool.false_eq_true] at h
    have := of_decide_eq_true h
    subst this
    exact ⟨⟨_, rfl⟩, fun Z H => by simp [Rep, vK]⟩
  | .tup ws, u, h => by
    cases u <;> simp only [cK, Bool.false_eq_true] at h
    rename_i a
    split at h
    · rename_i c od its n sl e
      simp only [Bool.and_eq_true, decide_eq_true_eq] at h
      obtain ⟨⟨rfl, h2⟩, h3⟩ := h
      obtain ⟨vs, r1, r2⟩ := cKs_ok hG h3
      refine ⟨rfl, fun Z H => ?_⟩
      simp only [Rep, vK]
      exact ⟨a, vs, rfl, .inr ⟨_, its, n, by rw [hG]; exact e, rfl, rfl, h2, r1⟩, r2 Z H⟩
    · cases h
  | .ty _, u, h => by cases u <;> simp only [cK, Bool.false_eq_true] at h
  | .fn _, u, h => by cases u <;> simp only [cK, Bool.false_eq_true] at h
  | .lst _, u, h => by cases u <;> simp only [cK, Bool.false_eq_true] at h
  | .dct _, u, h => by cases u <;> simp only [cK, Bool.false_eq_true] at h
  | .obj _ _, u, h => by cases u <;> simp only [cK, Bool.false_eq_true] at h
theorem cKs_ok (hG : G.K = K) : ∀ {ws : List W} {us : List Value}, cKs K ws us = true → ∃ vs, Vals vs us ∧ ∀ Z H, Reps G Z H ws vs
  | [], [], _ => ⟨[], .nil, fun _ _ => Reps.nil⟩
  | w :: ws, u :: us, h => by
    simp only [cKs, Bool.and_eq_true] at h
    obtain ⟨a, b⟩ := cK_ok hG h.1
    obtain ⟨vs, c, d⟩ := cKs_ok hG h.2
    exact ⟨_ :: vs, .cons a c, fun Z H => Reps.cons (b Z H) (d Z H)⟩
  | [], _ :: _, h => by simp [cKs] at h
  | _ :: _, [], h => by simp [cKs] at h
end
end

/-! ### the facts asked of the head -/
def baseT : List String := ["NoneType", "bool", "int", "str", "tuple", "list", "dict"]
def PG0.fa (g : PG0) : List He.Fa :=
  g.pds.flatMap (fun p => match p.cls with
    | none => [.glo p.name]
    | some C => if p.name = "__init__" then (if g.mkc.contains C = true then [.mkr (Str.ofString C)] else []) else [.meth (Str.ofString C) p.name]) ++
  (g.cls.flatMap (fun C => .glo (Str.ofString C) :: .cls (Str.ofString C) :: g.flds.map (.noat (Str.ofString C))) ++ g.free.map .free)
def PG0.fn (g : PG0) : List He.DefD := g.pds.map PD.d
def eqB {α : Type} [DecidableEq α] (a b : α) : Bool := decide (a = b)
def ownB (K : PySem.W.Frag) (C : String) : Bool :=
  eqB (PySem.W.findIn K (.ref (He.ga K (Str.ofString C))) "__class__") (some (some (.builtin "object.__class__"))) &&
  (eqB (PySem.W.specialIn K (.builtin "object.__class__") "__get__") (some (some (.builtin "getset_descriptor.__get__"))) &&
  (eqB (PySem.W.takesIn K (.builtin "object.__class__")) (some true) && (eqB (PySem.W.mroIn K (He.ga K (Str.ofString C)) (.type "object")) (some true) && (eqB (PySem.W.findIn K (.ref (He.ga K (Str.ofString C))) "__ne__") (some (some (.builtin "object.__ne__"))) && bltN.all fun T => eqB (PySem.W.mroIn K (He.ga K (Str.ofString C)) (.type T)) (some false)))))
def PG0.tv (g : PG0) (K : PySem.W.Frag) (t : String) : Value := if g.cls.contains t = true then .ref (He.ga K (Str.ofString t)) else .type t
def PG0.kitB (g : PG0) (K : PySem.W.Frag) : Bool := (baseT ++ g.cls).all fun t => g.tys.all fun c => eqB (PySem.W.kitOne K (g.tv K t) (g.tv K c)) (some (subT t c))
def PG0.glbB (g : PG0) (K : PySem.W.Frag) : Bool := g.globs.all fun q => match PySem.W.nsIn K mainGlobals (Str.ofString q.1) with
  | some (some u) => cK K q.2 u
  | _ => false
def dflT (K : PySem.W.Frag) : Dfl → V → Bool
  | .non, .non => true
  | .int i, .int j => decide (i = j)
  | .tup0, .ref a => cK K (.tup []) (.ref a)
  | _, _ => false
def dflTs (K : PySem.W.Frag) : List Dfl → List V → Bool
  | [], _ => true
  | d :: ds, v :: vs => dflT K d v && dflTs K ds vs
  | _ :: _, [] => false
def noLst (K : PySem.W.Frag) : Bool := K.all fun q => match q.2.cls with
  | .type c => !(c == "list")
  | _ => true
def PG0.ex (g : PG0) (K : PySem.W.Frag) : Bool := g.cls.all (ownB K) && (g.kitB K && (g.glbB K && (g.pds.all (fun p => dflTs K p.ds (p.dvs K)) && noLst K)))
/-- what is asked of the datum alone -/
def PG0.okT (g : PG0) : Bool := baseT.all (fun t => !g.cls.contains t) && g.tys.all fun t => !(Str.ofString t == ("__debug__" : Str)) && (g.cls.contains t ||
  (g.free.contains (Str.ofString t) && eqB (bootBuiltins (Str.ofString t)) (some (.type t)) && !eqB (Str.ofString t) ("__name__" : Str)))
def PG0.clsOk (g : PG0) : Bool := g.pds.all fun p => match p.cls with
  | none => true
  | some C => g.cls.contains C
theorem eqB_ok {α : Type} [DecidableEq α] {a b : α} (h : eqB a b = true) : a = b := of_decide_eq_true h
theorem cA_of {g : PG0} {K : PySem.W.Frag} {C : String} (h : g.cls.contains C = true) : (g.G K).cA C = some (He.ga K (Str.ofString C)) := if_pos h
theorem cA_inv {g : PG0} {K : PySem.W.Frag} {C : String} {Ca : Addr} (h : (g.G K).cA C = some Ca) : g.cls.contains C = true ∧ Ca = He.ga K (Str.ofString C) := by
  have h : (if g.cls.contains C = true then some (He.ga K (Str.ofString C)) else none) = some Ca := h
  split at h
  · cases h; exact ⟨by assumption, rfl⟩
  · cases h
theorem tvG_eq {g : PG0} {K : PySem.W.Frag} {t : String} : tvG (g.G K) t = g.tv K t := by
  unfold tvG PG0.tv PG0.G
  simp only
  by_cases h : g.cls.contains t = true
  · rw [if_pos h, if_pos h]
  · rw [if_neg h, if_neg h]
theorem dflTs_ok {g : PG0} {K : PySem.W.Frag} : ∀ {ds : List Dfl} {vs : List V}, dflTs K ds vs = true → ∀ j d, ds[j]? = some d → ∀ Z H, Rep (g.G K) Z H d.w (vs.getD j .non)
  | d :: ds, v :: vs, h, 0, d', e, Z, H => by
    simp only [dflTs, Bool.and_eq_true] at h
    simp only [List.getElem?_cons_zero, Option.some.injEq] at e
    subst e
    have h1 := h.1
    cases d <;> cases v <;> simp only [dflT, Bool.false_eq_true] at h1
    · simp [Dfl.w, Rep]
    · exact (cK_ok (G := g.G K) rfl h1).2 Z H
    · have := of_decide_eq_true h1
      subst this
      simp [Dfl.w, Rep]
  | d :: ds, v :: vs, h, j + 1, d', e, Z, H => by
    simp only [dflTs, Bool.and_eq_true] at h
    have := dflTs_ok (g := g) h.2 j d' (by simpa using e) Z H
    simpa using this
  | [], _, _, j, d', e, _, _ => by simp at e
  | _ :: _, [], h, _, _, _, _, _ => by simp [dflTs] at h
theorem lk_mem {α β : Type} [BEq α] [LawfulBEq α] {a : α} {b : β} : ∀ {l : List (α × β)}, l.lookup a = some b → (a, b) ∈ l
  | [], h => by simp at h
  | (k, v) :: r, h => by
    rw [List.lookup_cons] at h
    split at h
    · rename_i e
      cases h
      rw [eq_of_beq e]
      exact List.mem_cons_self
    · exact List.mem_cons_of_mem _ (lk_mem h)
/-- the head's facts are the program's -/
theorem pf_of {g : PG0} {K : PySem.W.Frag} {h : Heap} {mg : Str → Option Value} (hT : g.okT = true) (hC : g.clsOk = true) (X : K.In h) (Gn : h.Ns mainGlobals mg) (c : He.SaysD g.fa g.fn K) (ex : g.ex K = true) : PF g K mg := by
  simp only [PG0.ex, Bool.and_eq_true] at ex
  obtain ⟨x1, x2, x3, x4, x5⟩ := ex
  have faD : ∀ {p : PD} {f : He.Fa}, p ∈ g.pds → f ∈ (match p.cls with
    | none => [He.Fa.glo p.name]
    | some C => if p.name = "__init__" then (if g.mkc.contains C = true then [.mkr (Str.ofString C)] else []) else [.meth (Str.ofString C) p.name]) → f.ok K = true := fun {p f} hp hf =>
    c.facts (List.mem_append_left _ (List.mem_flatMap.mpr ⟨p, hp, hf⟩))
  have faC : ∀ {C : String} {f : He.Fa}, g.cls.contains C = true → f ∈ (He.Fa.glo (Str.ofString C) :: .cls (Str.ofString C) :: g.flds.map (.noat (Str.ofString C))) → f.ok K = true := fun {C f} hp hf =>
    c.facts (List.mem_append_right _ (List.mem_append_left _ (List.mem_flatMap.mpr ⟨C, by simpa using hp, hf⟩)))
  have faF : ∀ {x : Str}, g.free.contains x = true → mg x = none := fun {x} hx =>
    He.free_ok X Gn (c.facts (List.mem_append_right _ (List.mem_append_right _ (List.mem_map.mpr ⟨x, by simpa using hx, rfl⟩))))
  have gloC : ∀ {C : String}, g.cls.contains C = true → mg (Str.ofString C) = some (.ref (He.ga K (Str.ofString C))) := fun {C} hc => He.glo_ok X Gn (faC hc (by simp))
  simp only [PG0.okT, Bool.and_eq_true, List.all_eq_true, Bool.not_eq_true'] at hT
  obtain ⟨t1, t2⟩ := hT
  have clsIn : ∀ p ∈ g.pds, ∀ C, p.cls = some C → g.cls.contains C = true := fun p hp C e => by
    have := List.all_eq_true.mp hC p hp
    rw [e] at this
    exact this
  have atN : ∀ p : PD, p.cls = none → He.fAd K p.at_ = He.ga K p.name := fun p e => by unfold PD.at_; rw [e]; rfl
  have atS : ∀ p : PD, ∀ C, p.cls = some C → He.fAd K p.at_ = He.ma K (He.ga K (Str.ofString C)) p.name := fun p C e => by unfold PD.at_; rw [e]; rfl
  refine ⟨fun p hp => c.defs (d := p.d) (List.mem_map.mpr ⟨p, hp, rfl⟩), fun p hp => dflTs_ok (g := g) (List.all_eq_true.mp x4 p hp), fun x hx => faF hx, fun x w hx => ?_, fun t ht => ?_, fun t ht => (t2 t (by simpa using ht)).1, fun t cc h1 h2 => ?_, fun t ht => ?_, fun C Ca hc => ?_, fun p hp e => ?_, fun p hp C e hn => ?_, fun p hp C e hn hm => ?_⟩
  · have hm := lk_mem hx
    have := List.all_eq_true.mp x3 _ hm
    simp only at this
    split at this
    · rename_i u e
      obtain ⟨r1, r2⟩ := cK_ok (G := g.G K) rfl this
      exact ⟨u, _, PySem.W.mg_of X Gn e, r1, r2⟩
    · cases this
  · have := t2 t (by simpa using ht)
    rcases Bool.or_eq_true _ _ ▸ this.2 with q | q
    · exact .inl ⟨_, cA_of q, gloC q⟩
    · simp only [Bool.and_eq_true, Bool.not_eq_true'] at q
      by_cases hc : g.cls.contains t = true
      · exact .inl ⟨_, cA_of hc, gloC hc⟩
      · exact .inr ⟨if_neg hc, faF q.1.1, eqB_ok q.1.2, of_decide_eq_false q.2, this.1⟩
  · rw [tvG_eq, tvG_eq]
    have hm : t ∈ baseT ++ g.cls := by
      rcases h1 with ⟨h1, _⟩ | h1
      · exact List.mem_append_left _ h1
      · obtain ⟨Ca, e⟩ := Option.isSome_iff_exists.mp h1
        exact List.mem_append_right _ (by simpa using (cA_inv e).1)
    exact eqB_ok (List.all_eq_true.mp (List.all_eq_true.mp x2 t hm) cc (by simpa using h2))
  · exact if_neg (by simpa using t1 t ht)
  · obtain ⟨hc2, rfl⟩ := cA_inv hc
    have o := List.all_eq_true.mp x1 C (List.contains_iff_mem.mp hc2)
    simp only [ownB, Bool.and_eq_true] at o
    obtain ⟨o1, o2, o3, o4, o5, o6⟩ := o
    exact ⟨He.cls_ok (faC hc2 (by simp)), eqB_ok o1, eqB_ok o2, eqB_ok o3, eqB_ok o4, fun f hf => He.noat_ok (faC hc2 (by
      refine List.mem_cons_of_mem _ (List.mem_cons_of_mem _ (List.mem_map.mpr ⟨f, ?_, rfl⟩))
      have hf : g.flds.contains f = true := hf
      simpa using hf)), eqB_ok o5, fun T hT => eqB_ok (List.all_eq_true.mp o6 T hT)⟩
  · rw [atN p e]
    exact He.glo_ok X Gn (faD hp (by rw [e]; simp))
  · refine ⟨_, cA_of (clsIn p hp C e), ?_⟩
    rw [atS p C e]
    exact He.meth_ok (faD hp (by rw [e]; simp [hn]))
  · refine ⟨_, cA_of (clsIn p hp C e), gloC (clsIn p hp C e), ?_⟩
    rw [atS p C e, hn]
    exact He.mkr_ok (faD hp (by
      rw [e]
      show _ ∈ (if p.name = "__init__" then (if g.mkc.contains C = true then [He.Fa.mkr (Str.ofString C)] else []) else [He.Fa.meth (Str.ofString C) p.name])
      rw [if_pos hn, if_pos hm]
      simp))

/-! ### a law's end -/
theorem sql_rd {K : PySem.W.Frag} {H : Hp} {a : Addr} {vs : List V} (h : SqL K H a vs) (n : noLst K = true) : Rd H a (.lst vs) := by
  rcases h with h | ⟨o, its, m, e, hc, _⟩
  · exact h
  · have := List.all_eq_true.mp n (a, o) (He.lookup_mem e)
    simp only [hc] at this
    cases this
theorem ints_repL {G : Gx} {Z : Addr → Prop} {H : Hp} : ∀ ns : List Int, Reps G Z H (ns.map W.int) (ns.map V.int)
  | [] => Reps.nil
  | n :: ns => Reps.cons (by simp [Rep]) (ints_repL ns)
theorem law_binds {K : PySem.W.Frag} {p : PD} {f : Addr} {fd : FuncData} {x : Str} (F : FunD K p.name p.qual p.params p.body p.scope (p.d.dvs K) (p.d.kws K) f fd) (hd : p.dfl = []) (hk : p.kwd = []) (hp : p.ps = [x]) (c : p.shC 1 [] [.inl 0] = true) (s : Shared) (u : Value) : BindsTo s fd ⟨[u], []⟩ [(x, u)] := by
  obtain ⟨oc, od, dV, kV, doc, pm, an, cdv, ct, osl, rfl, lk, hcd, hD, hK⟩ := F.ex
  simp only [PD.shC, Bool.and_eq_true, decide_eq_true_eq, Option.isNone_iff_eq_none] at c
  obtain ⟨⟨⟨⟨⟨c1, c2⟩, c3⟩, c6⟩, c4⟩, c5⟩ := c
  have e0 : p.d.dvs K = [] := by
    show (dvPs p.at_ 0 p.dfl).map _ = []
    rw [hd]
    rfl
  have hdV : dV = .none := by
    rcases hD with ⟨_, h⟩ | ⟨h, _⟩
    · exact h
    · exact absurd e0 h
  subst hdV
  refine BindsTo.of_looks fun M => ?_
  have key := bind_looks (M := M) (h := s.heap) (fd := PySem.W.fnOf p.name p.qual p.params p.body p.scope .none kV doc pm an cdv ct) (po := p.params.posonlyargs.map (·.arg)) (pos := p.pos) (nor := p.nor) (kwo := p.kwo) (ks := []) (us := [u]) (ws := []) (its := []) (kwd := (p.kwd.map (·.1)).zip ([] : List Value))
    c1 c2 rfl rfl rfl rfl ⟨none, .of_pure rfl, rfl⟩ (fun n v h => by rw [hk] at h; cases h) (by rw [ok_sy (df := Value.none) (n := 1) rfl rfl (dl := p.dfl.length) (by rw [hd]; rfl) (kl := p.kwd.length) (by rw [hk]; rfl)]; exact c3)
  rw [bind_sy (df := Value.none) (n := 1) rfl rfl (dl := p.dfl.length) (by rw [hd]; rfl) (kl := p.kwd.length) (by rw [hk]; rfl)] at key
  have e : (p.res 1 []).map (mV (valS .none ([u] ++ []) ([] ++ []))) = [(x, u)] := by
    have e1 : (p.res 1 []).map (mV (valS .none ([u] ++ []) ([] ++ []))) = p.ps.zip (((p.res 1 []).map (·.2)).map (valS .none ([u] ++ []) ([] ++ []))) := by
      rw [← c4, ← zip_back]
      rfl
    rw [e1, hp]
    have e2 : ((p.res 1 []).map (·.2)).map (toB p.ds) = [.inl 0] := by rw [List.map_map]; exact c5
    generalize (p.res 1 []).map (·.2) = sy at e2 ⊢
    match sy, e2 with
    | [.inl i], e2 =>
      simp only [List.map_cons, List.map_nil, toB, List.cons.injEq, Sum.inl.injEq, and_true] at e2
      subst e2
      rfl
    | [.inr j], e2 => simp [toB] at e2
    | [], e2 => simp at e2
    | _ :: _ :: _, e2 => simp at e2
  rw [← e]
  exact key
theorem law_of {g : PG0} {l : PySem.W.OpenLaw} {n k : Nat} {q : Program} {loose : List Str} {XPp : (Str → Option Value) → Heap → Prop} {d : DefRec} {x : Str} {p : PD}
    (hg : g.ok = true) (hT : g.okT = true) (hC : g.clsOk = true) (hp : g.find "law" = some p) (hcls : p.cls = none) (hnm : p.name = "law") (hd0 : p.dfl = []) (hk0 : p.kwd = []) (hps : p.ps = [x]) (hsh : p.shC 1 [] [.inl 0] = true) (hdn : d.name = ("law" : Str))
    (hn : l.most = some n) (hn2 : n ≤ sizeLine) (hdf : d.params.defaults = []) (hr : Room (2 * k) callerA)
    (hE : ∀ ns : List Int, ns.length ≤ n → ∃ S', callM g.P k "law" [.p (.lst (ns.map .int))] [] = .ok (.p (.bl true)) S') :
    PySem.W.WalkO q loose XPp (fun w h => ∃ K : PySem.W.Frag, K.In h ∧ He.SaysX g.fa g.fn [] [] g.ex w h K) l.row.toRowW d [] (fun f vs => PySem.call f vs) := by
  refine walk_ofG (x := x) hn hn2 hdf hr fun w mg fa h Y Gn hmg => ?_
  obtain ⟨K, KX, c⟩ := Y
  have hx := c.more
  have pf := pf_of hT hC KX Gn c.t.d hx
  obtain ⟨hm, _⟩ := find_mem hp
  obtain ⟨fd, F⟩ := pf.funD p hm
  have e1 := pf.gl p hm hcls
  rw [hdn] at hmg
  rw [hnm, hmg] at e1
  cases e1
  have nl : noLst K = true := by
    simp only [PG0.ex, Bool.and_eq_true] at hx
    exact hx.2.2.2.2
  refine ⟨K, fd, spC (g.G K) (callM g.P k "law"), KX, fun s u => law_binds F hd0 hk0 hps hsh s u, fun H a ns hl hO hS => ?_, fun base Kb Nb => ?_⟩
  · have hr := sql_rd hS nl
    obtain ⟨S', e⟩ := hE ns hl
    refine ⟨[], fun _ => 0, [], [.p (.lst (ns.map .int))], ⟨fun n o e => by simp at e, fun n m o o' e => by simp at e, fun b hb => by simp at hb, fun n o e => by simp at e⟩, ⟨_, _, rfl, repL hr ⟨fun ⟨k, o, e, _⟩ => by simp at e, by simp⟩ (ints_repL ns), rfl⟩, ?_⟩
    rw [e]
    intro b ρ' H' s R r
    simpa [RepU, Rep] using r
  · rw [← hps]
    exact fn_sound hg pf k "law" p hp fd F
end Pm
end
section
set_option Elab.async false
set_option linter.all false
set_option maxHeartbeats 1000000
/-! Ws1: what the small evaluator reaches, by what is wanted (no program's text in sight). -/
namespace Pm
open PySem

abbrev WE := String → List (Str × W) → Sto → Prop
def Wp {α : Type} (m : M α) (Q : α → Sto → Prop) (E : WE) (S : Sto) : Prop := match m S with
  | .ok a S' => Q a S'
  | .err C fs S' => E C fs S'
  | .bad => False
abbrev noE : WE := fun _ _ _ => False
inductive All2 {α β : Type} (R : α → β → Prop) : List α → List β → Prop where
  | nil : All2 R [] []
  | cons {a : α} {b : β} {as : List α} {bs : List β} : R a b → All2 R as bs → All2 R (a :: as) (b :: bs)
section
variable {α β : Type} {Q Q' : α → Sto → Prop} {R : β → Sto → Prop} {E E' : WE} {S S' : Sto} {m : M α} {F : Cf} {τ : Lo}
theorem wp_bind {f : α → M β} : Wp (M.bind m f) R E S = Wp m (fun a S' => Wp (f a) R E S') E S := by
  unfold Wp M.bind
  cases m S <;> rfl
theorem wp_ok {a : α} : Wp (fun S => Res.ok a S) Q E S = Q a S := rfl
theorem wp_okP {w : W} {Q : U → Sto → Prop} : Wp (okP w) Q E S = Q (.p w) S := rfl
theorem wp_bad : Wp (badM : M α) Q E S = False := rfl
theorem wp_newU {o : MO} {Q : U → Sto → Prop} : Wp (newU o) Q E S = Q (.loc S.length) (S ++ [some o]) := rfl
theorem wp_ite {c : Prop} [Decidable c] {a b : M α} : Wp (if c then a else b) Q E S = if c then Wp a Q E S else Wp b Q E S := by split <;> rfl
theorem wp_inS {m : M U} {f : U → M Fl} {Q : Fl → Sto → Prop} : Wp (inS m τ f) Q E S = Wp m (fun u S' => Wp (f u) Q E S') (fun C fs S' => Q (.ex C fs τ) S') S := by
  unfold Wp inS
  cases m S <;> rfl
theorem wp_inSb {m : M Bool} {f : Bool → M Fl} {Q : Fl → Sto → Prop} : Wp (inSb m τ f) Q E S = Wp m (fun u S' => Wp (f u) Q E S') (fun C fs S' => Q (.ex C fs τ) S') S := by
  unfold Wp inSb
  cases m S <;> rfl
theorem wp_inSs {m : M (List U)} {f : List U → M Fl} {Q : Fl → Sto → Prop} : Wp (inSs m τ f) Q E S = Wp m (fun u S' => Wp (f u) Q E S') (fun C fs S' => Q (.ex C fs τ) S') S := by
  unfold Wp inSs
  cases m S <;> rfl
theorem wp_nxt {Q : Fl → Sto → Prop} : Wp (nxt τ) Q E S = Q (.nx τ) S := rfl
theorem wp_rdp {w : W} {Q : W → Sto → Prop} : Wp (rdU (.p w)) Q E S = Q w S := rfl
theorem wp_rdl {n : Nat} {o : MO} {Q : W → Sto → Prop} (h : S[n]? = some (some o)) : Wp (rdU (.loc n)) Q E S = Q o.frz S := by
  unfold Wp rdU
  simp only [h]
theorem wp_rdl' {n : Nat} {Q : W → Sto → Prop} : Wp (rdU (.loc n)) Q E S = match S[n]? with
    | some (some o) => Q o.frz S
    | _ => False := by
  simp only [Wp, rdU]
  cases S[n]? with
  | none => rfl
  | some o => cases o <;> rfl
theorem wp_setix {n : Nat} {i : Int} {w : W} {Q : Unit → Sto → Prop} : Wp (setIxM (.loc n) (.p (.int i)) w) Q E S = match S[n]? with
    | some (some (.lst ws)) => (match ixAt ws.length i with
      | some k => Q () (S.set n (some (.lst (ws.set k w))))
      | none => False)
    | _ => False := by
  simp only [Wp, setIxM]
  cases S[n]? with
  | none => rfl
  | some o =>
    cases o with
    | none => rfl
    | some o =>
      cases o with
      | lst ws => simp only; cases ixAt ws.length i <;> rfl
      | dct _ => rfl
      | ins _ _ => rfl
theorem wp_setf {n : Nat} {f : Str} {w : W} {Q : Unit → Sto → Prop} : Wp (setFM (.loc n) f w) Q E S = match S[n]? with
    | some (some (.ins C fs)) => if fs.length < 100 then Q () (S.set n (some (.ins C (putF f w fs)))) else False
    | _ => False := by
  simp only [Wp, setFM]
  cases S[n]? with
  | none => rfl
  | some o =>
    cases o with
    | none => rfl
    | some o =>
      cases o with
      | ins C fs => by_cases h : fs.length < 100 <;> simp only [h, if_true, if_false]
      | dct _ => rfl
      | lst _ => rfl
theorem wp_updL {n : Nat} {g : List W → Option (List W × W)} {Q : U → Sto → Prop} : Wp (updL n g) Q E S = match S[n]? with
    | some (some (.lst ws)) => (match g ws with
      | some (ws', r) => if ws'.length ≤ bigLine then Q (.p r) (S.set n (some (.lst ws'))) else False
      | none => False)
    | _ => False := by
  simp only [Wp, updL]
  cases S[n]? with
  | none => rfl
  | some o =>
    cases o with
    | none => rfl
    | some o =>
      cases o with
      | lst ws => simp only; cases g ws with
        | none => rfl
        | some r => obtain ⟨a, b⟩ := r; by_cases h : a.length ≤ bigLine <;> simp only [h, if_true, if_false]
      | dct _ => rfl
      | ins _ _ => rfl
theorem wp_frp {w : W} {Q : W → Sto → Prop} : Wp (frU (.p w)) Q E S = Q w S := rfl
theorem wp_frl {n : Nat} {o : MO} {Q : W → Sto → Prop} (h : S[n]? = some (some o)) : Wp (frU (.loc n)) Q E S = Q o.frz (S.set n none) := by
  unfold Wp frU
  simp only [h]
theorem wp_some {a : α} : Wp (ofOpt (some a)) Q E S = Q a S := rfl
theorem Wp.mono (h : Wp m Q E S) (hQ : ∀ a S', Q a S' → Q' a S') (hE : ∀ C fs S', E C fs S' → E' C fs S') : Wp m Q' E' S := by
  unfold Wp at h ⊢
  cases e : m S <;> rw [e] at h <;> first | exact hQ _ _ h | exact hE _ _ _ h | exact h.elim
/-- a call's law: nothing is raised -/
theorem Wp.to (h : Wp m Q noE S) (hQ : ∀ a S', Q a S' → Q' a S') : Wp m Q' E' S := h.mono hQ fun _ _ _ z => z.elim
theorem wp_guard {b : Bool} {Q : Unit → Sto → Prop} : Wp (guardM b) Q E S = (b = true ∧ Q () S) := by
  unfold Wp guardM
  cases b <;> simp
theorem eq_of_wp {m : M U} {w : W} (h : ∀ S, Wp m (fun u S' => u = .p w ∧ S' = S) noE S) : m = okP w := by
  funext S
  have := h S
  unfold Wp at this
  cases e : m S <;> rw [e] at this
  · obtain ⟨rfl, rfl⟩ := this
    rfl
  · exact this.elim
  · exact this.elim
/-- what a call computes -/
theorem wp_call {P : Pg} {k : Nat} {f : String} {d : Fn} {us : List U} {Q : U → Sto → Prop} (hf : P.fn f = some d) (hl : us.length = d.np)
    (h : Wp (evB ⟨callM P k, P.glob, P.wh⟩ d.body (us.map some ++ List.replicate (d.n - d.np) none)) (fun fl S' => match fl with
      | .rt u => Wp (finU d.keep S.length u) Q E S'
      | .nx _ => Q (.p .non) (S'.take S.length)
      | .ex C fs _ => E C fs (S'.take S.length)
      | _ => False) (fun _ _ _ => False) S) : Wp (callM P (k + 1) f us) Q E S := by
  unfold Wp at h ⊢
  simp only [callM, hf, runFn, hl, if_true]
  cases e : evB ⟨callM P k, P.glob, P.wh⟩ d.body (us.map some ++ List.replicate (d.n - d.np) none) S with
  | err _ _ _ => rw [e] at h; exact h.elim
  | bad => rw [e] at h; exact h.elim
  | ok fl S' =>
    rw [e] at h
    cases fl <;> first | exact h | exact h.elim
theorem wp_finp {b : Bool} {n : Nat} {w : W} {Q : U → Sto → Prop} : Wp (finU b n (.p w)) Q E S = Q (.p w) (S.take n) := rfl
theorem wp_finl {b : Bool} {n m : Nat} {o : MO} {Q : U → Sto → Prop} (h : n ≤ m) (e : S[m]? = some (some o)) : Wp (finU b n (.loc m)) Q E S = if b = true then Q (.loc n) (S.take n ++ [some o]) else Q (.p o.frz) (S.take n) := by
  unfold Wp finU
  simp only [if_neg (Nat.not_lt.mpr h), e]
  cases b <;> rfl
theorem wp_finlo {b : Bool} {n m : Nat} {Q : U → Sto → Prop} (h : m < n) : Wp (finU b n (.loc m)) Q E S = Q (.loc m) (S.take n) := by
  unfold Wp finU
  simp only [if_pos h]
theorem take_set {n k : Nat} {x : Option MO} (h : k = S.length) : (S.set n x).take k = S.set n x := List.take_of_length_le (by rw [List.length_set]; omega)
theorem take_all {k : Nat} (h : k = S.length) : S.take k = S := List.take_of_length_le (by omega)
/-- statements one behind another -/
theorem wp_cons {s : Stx} {r : List Stx} {Q : Fl → Sto → Prop} : Wp (evB F (s :: r) τ) Q E S = Wp (evS F s τ) (fun fl S' => match fl with
    | .nx τ1 => Wp (evB F r τ1) Q E S'
    | fl => Q fl S') E S := by
  simp only [evB, wp_bind]
  congr 1
  funext fl S'
  cases fl <;> rfl
theorem wp_nil {Q : Fl → Sto → Prop} : Wp (evB F [] τ) Q E S = Q (.nx τ) S := rfl
/-- a comprehension's turn -/
def compF (F : Cf) (own : List (Str × Nat)) (tg : Tg) (cond : List Ex) (elt : Ex) (τ : Lo) : W → M (Option W) := fun w =>
  match bindTg tg w (wipeL τ (own.map (·.2))) with
  | none => badM
  | some τ1 => M.bind (evC F cond τ1) fun b => if b = true then M.bind (evE F elt τ1) fun v => M.bind (frU v) fun y => fun S => .ok (some y) S else fun S => .ok none S
theorem evE_comp {mm : Bool} {own : List (Str × Nat)} {tg : Tg} {ip : Option Pr} {its cond : List Ex} {elt : Ex} : evE F (.comp mm own tg ip its cond elt) τ = M.bind (evEs F its τ) fun us => M.bind (itU F ip us) fun u => M.bind (walkU u fun ws => M.bind (guardM (decide (ws.length ≤ bigLine))) fun _ => compL (compF F own tg cond elt τ) ws) fun ws => if mm = true then newU (.lst ws) else okP (.lst ws) := by
  rw [evE.eq_11]
  rfl
/-- a pure comprehension -/
theorem compL_map {f : W → M (Option W)} {g : W → W} : ∀ {ws : List W}, (∀ w ∈ ws, f w S = .ok (some (g w)) S) → compL f ws S = .ok (ws.map g) S
  | [], _ => rfl
  | w :: ws, h => by
    simp only [compL, M.bind, h w (by simp), compL_map (ws := ws) fun x hx => h x (by simp [hx])]
    rfl
theorem compL_filt {f : W → M (Option W)} {p : W → Bool} {g : W → W} : ∀ {ws : List W}, (∀ w ∈ ws, f w S = .ok (if p w = true then some (g w) else none) S) → compL f ws S = .ok ((ws.filter p).map g) S
  | [], _ => rfl
  | w :: ws, h => by
    simp only [compL, M.bind, h w (by simp), compL_filt (ws := ws) fun x hx => h x (by simp [hx])]
    by_cases hp : p w = true
    · simp [hp]
    · simp [hp]
/-- a comprehension that changes the store, whatever is picked: I holds throughout, Y of each item -/
theorem wp_compL {f : W → M (Option W)} {I : Sto → Prop} {Y : W → W → Prop} {ws : List W} {Q : List W → Sto → Prop} (hI : I S) (h : ∀ w ∈ ws, ∀ S, I S → Wp (f w) (fun o S' => I S' ∧ ∀ y, o = some y → Y w y) E S)
    (hQ : ∀ ys S', I S' → (∀ y ∈ ys, ∃ w ∈ ws, Y w y) → ys.length ≤ ws.length → Q ys S') : Wp (compL f ws) Q E S := by
  have key : ∀ (vs : List W) (S : Sto), (∀ w ∈ vs, w ∈ ws) → I S → Wp (compL f vs) (fun ys S' => I S' ∧ (∀ y ∈ ys, ∃ w ∈ ws, Y w y) ∧ ys.length ≤ vs.length) E S := by
    intro vs
    induction vs with
    | nil => intro S _ hi; exact ⟨hi, by simp, by simp⟩
    | cons v vs ih =>
      intro S hs hi
      simp only [compL, wp_bind]
      refine (h v (hs v (by simp)) S hi).mono (fun o S' ⟨i1, y1⟩ => ?_) fun _ _ _ e => e
      refine (ih S' (fun w hw => hs w (by simp [hw])) i1).mono (fun ys S2 ⟨i2, y2, l2⟩ => ?_) fun _ _ _ e => e
      refine ⟨i2, ?_, ?_⟩
      · intro y hy
        cases o with
        | none => exact y2 y hy
        | some z =>
          rcases List.mem_cons.mp hy with e | e
          · exact ⟨v, hs v (by simp), y1 y (by rw [e])⟩
          · exact y2 y e
      · cases o <;> simp <;> omega
  exact (key ws S (fun _ h => h) hI).mono (fun ys S' ⟨a, b, c⟩ => hQ ys S' a b c) fun _ _ _ e => e
/-- .. one item for each, in order -/
theorem wp_compL2 {f : W → M (Option W)} {I : Sto → Prop} {Y : W → W → Prop} {ws : List W} {Q : List W → Sto → Prop} (hI : I S) (h : ∀ w ∈ ws, ∀ S, I S → Wp (f w) (fun o S' => I S' ∧ ∃ y, o = some y ∧ Y w y) E S)
    (hQ : ∀ ys S', I S' → All2 Y ws ys → Q ys S') : Wp (compL f ws) Q E S := by
  have key : ∀ (vs : List W) (S : Sto), (∀ w ∈ vs, w ∈ ws) → I S → Wp (compL f vs) (fun ys S' => I S' ∧ All2 Y vs ys) E S := by
    intro vs
    induction vs with
    | nil => intro S _ hi; exact ⟨hi, .nil⟩
    | cons v vs ih =>
      intro S hs hi
      simp only [compL, wp_bind]
      refine (h v (hs v (by simp)) S hi).mono (fun o S' ⟨i1, y, ho, hy⟩ => ?_) fun _ _ _ e => e
      subst ho
      exact (ih S' (fun w hw => hs w (by simp [hw])) i1).mono (fun ys S2 ⟨i2, y2⟩ => ⟨i2, .cons hy y2⟩) fun _ _ _ e => e
  exact (key ws S (fun _ h => h) hI).mono (fun ys S' ⟨a, b⟩ => hQ ys S' a b) fun _ _ _ e => e
/-- a walk -/
theorem wp_forL {f : Lo → M Fl} {tg : Tg} {I : Nat → Lo → Sto → Prop} {ws : List W} {Q : Fl → Sto → Prop} (hI : I 0 τ S)
    (h : ∀ (i : Nat) (w : W) (τ : Lo) (S : Sto), ws[i]? = some w → I i τ S → ∃ τ1, bindTg tg w τ = some τ1 ∧ Wp (f τ1) (fun fl S' => match fl with
      | .nx τ2 => I (i + 1) τ2 S'
      | .ct τ2 => I (i + 1) τ2 S'
      | .bk τ2 => Q (.nx τ2) S'
      | fl => Q fl S') E S)
    (hQ : ∀ τ S, I ws.length τ S → Q (.nx τ) S) : Wp (forL f tg ws τ) Q E S := by
  have key : ∀ (n i : Nat) (τ : Lo) (S : Sto), ws.length - i = n → i ≤ ws.length → I i τ S → Wp (forL f tg (ws.drop i) τ) Q E S := by
    intro n
    induction n with
    | zero =>
      intro i τ S hn hi hI
      have : i = ws.length := by omega
      subst this
      rw [List.drop_length]
      exact hQ τ S hI
    | succ n ih =>
      intro i τ S hn hi hI
      have hlt : i < ws.length := by omega
      rw [List.drop_eq_getElem_cons hlt]
      obtain ⟨τ1, e1, h1⟩ := h i ws[i] τ S (List.getElem?_eq_getElem hlt) hI
      simp only [forL, e1, wp_bind]
      refine h1.mono (fun fl S' q => ?_) fun _ _ _ e => e
      cases fl with
      | nx τ2 => exact ih (i + 1) τ2 S' (by omega) hlt q
      | ct τ2 => exact ih (i + 1) τ2 S' (by omega) hlt q
      | bk τ2 => exact q
      | rt u => exact q
      | ex _ _ _ => exact q
  simpa using key ws.length 0 τ S (by omega) (Nat.zero_le _) hI
theorem wp_walkp {w : W} {f : List W → M α} {ws : List W} (h : itemsW w = some ws) : Wp (walkU (.p w) f) Q E S = Wp (f ws) Q E S := by
  simp only [walkU, h]
theorem wp_walkSp {w : W} {f : List W → M Fl} {ws : List W} {Q : Fl → Sto → Prop} (h : itemsW w = some ws) : Wp (walkS (.p w) f) Q E S = Wp (f ws) Q E S := by
  simp only [walkS, h]
theorem ok_of_wp {x : α} (h : Wp m (fun a S' => a = x ∧ S' = S) noE S) : m S = .ok x S := by
  unfold Wp at h
  cases e : m S <;> rw [e] at h
  · obtain ⟨rfl, rfl⟩ := h
    rfl
  · exact h.elim
  · exact h.elim
theorem wp_compM {f : W → M (Option W)} {g : W → W} {ws : List W} {Q : List W → Sto → Prop} (h : ∀ w ∈ ws, Wp (f w) (fun a S' => a = some (g w) ∧ S' = S) noE S) : Wp (compL f ws) Q E S = Q (ws.map g) S := by
  unfold Wp
  rw [compL_map (g := g) fun w hw => ok_of_wp (h w hw)]
theorem wp_newO {P : Pg} {k wh : Nat} {gl : String → Option W} {C key : String} {us : List U} {Q : U → Sto → Prop} (hk : C ++ ".__init__" = key) (h : Wp (callM P k key (.loc S.length :: us)) (fun u S' => u = .p .non ∧ ∃ o, S'[S.length]? = some (some o) ∧ Q (.p o.frz) (S'.take S.length)) (fun D fs S' => E D fs (S'.take S.length)) (S ++ [some (.ins C [])])) : Wp (newO ⟨callM P k, gl, wh⟩ C us) Q E S := by
  subst hk
  unfold Wp at h ⊢
  unfold newO
  simp only
  cases e : callM P k (C ++ ".__init__") (.loc S.length :: us) (S ++ [some (.ins C [])]) <;> rw [e] at h
  · obtain ⟨rfl, o, e2, q⟩ := h
    simp only [e2]
    exact q
  · exact h
  · exact h.elim
end
/-! ### evaluation under Wp; what comes behind has a name, so that it stays as it is -/
def kB {α β : Type} (f : α → M β) (Q : β → Sto → Prop) (E : WE) : α → Sto → Prop := fun a S => Wp (f a) Q E S
def kS (F : Cf) (r : List Stx) (Q : Fl → Sto → Prop) (E : WE) : Fl → Sto → Prop := fun fl S => match fl with
  | .nx τ1 => Wp (evB F r τ1) Q E S
  | fl => Q fl S
def kM {α β : Type} (g : α → β) (Q : β → Sto → Prop) : α → Sto → Prop := fun a S => Q (g a) S
def kX (τ : Lo) (Q : Fl → Sto → Prop) : WE := fun C fs S => Q (.ex C fs τ) S
/-- behind a def's body -/
def kF (kp : Bool) (n : Nat) (Q : U → Sto → Prop) (E : WE) : Fl → Sto → Prop := fun fl S => match fl with
  | .rt u => Wp (finU kp n u) Q E S
  | .nx _ => Q (.p .non) (S.take n)
  | .ex C fs _ => E C fs (S.take n)
  | _ => False
section
variable {α β : Type} {Q : α → Sto → Prop} {R : β → Sto → Prop} {E : WE} {S : Sto} {m : M α} {F : Cf} {τ τ1 : Lo} {QU : U → Sto → Prop} {QF : Fl → Sto → Prop} {QB : Bool → Sto → Prop} {QL : List U → Sto → Prop}
theorem kB_ap {f : α → M β} {a : α} : kB f R E a S = Wp (f a) R E S := rfl
theorem kM_ap {g : α → β} {a : α} : kM g R a S = R (g a) S := rfl
theorem kS_nx {r : List Stx} : kS F r QF E (.nx τ1) S = Wp (evB F r τ1) QF E S := rfl
theorem kS_rt {r : List Stx} {u : U} : kS F r QF E (.rt u) S = QF (.rt u) S := rfl
theorem kS_bk {r : List Stx} : kS F r QF E (.bk τ1) S = QF (.bk τ1) S := rfl
theorem kS_ct {r : List Stx} : kS F r QF E (.ct τ1) S = QF (.ct τ1) S := rfl
theorem kS_ex {r : List Stx} {C : String} {fs : List (Str × W)} : kS F r QF E (.ex C fs τ1) S = QF (.ex C fs τ1) S := rfl
theorem kX_ap {C : String} {fs : List (Str × W)} : kX τ QF C fs S = QF (.ex C fs τ) S := rfl
theorem kF_rt {kp : Bool} {n : Nat} {u : U} : kF kp n QU E (.rt u) S = Wp (finU kp n u) QU E S := rfl
theorem kF_nx {kp : Bool} {n : Nat} : kF kp n QU E (.nx τ) S = QU (.p .non) (S.take n) := rfl
theorem kF_ex {kp : Bool} {n : Nat} {C : String} {fs : List (Str × W)} : kF kp n QU E (.ex C fs τ) S = E C fs (S.take n) := rfl
theorem w_bind {f : α → M β} : Wp (M.bind m f) R E S = Wp m (kB f R E) E S := wp_bind
theorem w_inS {m : M U} {f : U → M Fl} : Wp (inS m τ f) QF E S = Wp m (kB f QF E) (kX τ QF) S := wp_inS
theorem w_inSb {m : M Bool} {f : Bool → M Fl} : Wp (inSb m τ f) QF E S = Wp m (kB f QF E) (kX τ QF) S := wp_inSb
theorem w_inSs {m : M (List U)} {f : List U → M Fl} : Wp (inSs m τ f) QF E S = Wp m (kB f QF E) (kX τ QF) S := wp_inSs
theorem w_cons {s : Stx} {r : List Stx} : Wp (evB F (s :: r) τ) QF E S = Wp (evS F s τ) (kS F r QF E) E S := by
  rw [wp_cons]
  rfl
theorem wE_var {i : Nat} : Wp (evE F (.var i) τ) QU E S = match τ[i]? with
    | some (some u) => QU u S
    | _ => False := by
  simp only [evE]
  rcases τ[i]? with _ | _ | u <;> rfl
theorem wE_cst {w : W} : Wp (evE F (.cst w) τ) QU E S = QU (.p w) S := by simp only [evE]; rfl
theorem wE_glob {x : String} : Wp (evE F (.glob x) τ) QU E S = match F.glob x with
    | some w => QU (.p w) S
    | none => False := by
  simp only [evE]
  cases F.glob x <;> rfl
theorem wE_pr {p : Pr} {es : List Ex} : Wp (evE F (.pr p es) τ) QU E S = Wp (evEs F es τ) (kB (prE F p) QU E) E S := by
  simp only [evE]
  exact w_bind
def kAnd (F : Cf) (b : Ex) (τ : Lo) (u : U) : M U := match u with
  | .p (.bl c) => if c = true then evE F b τ else okP (.bl false)
  | _ => badM
def kOr (F : Cf) (b : Ex) (τ : Lo) (u : U) : M U := match u with
  | .p (.bl c) => if c = true then okP (.bl true) else evE F b τ
  | _ => badM
theorem w_kAnd {b : Ex} {c : Bool} : Wp (kAnd F b τ (.p (.bl c))) QU E S = if c = true then Wp (evE F b τ) QU E S else QU (.p (.bl false)) S := by cases c <;> rfl
theorem w_kOr {b : Ex} {c : Bool} : Wp (kOr F b τ (.p (.bl c))) QU E S = if c = true then QU (.p (.bl true)) S else Wp (evE F b τ) QU E S := by cases c <;> rfl
theorem wE_and {a b : Ex} : Wp (evE F (.and a b) τ) QU E S = Wp (evE F a τ) (kB (kAnd F b τ) QU E) E S := by
  simp only [evE]
  exact w_bind
theorem wE_or {a b : Ex} : Wp (evE F (.or a b) τ) QU E S = Wp (evE F a τ) (kB (kOr F b τ) QU E) E S := by
  simp only [evE]
  exact w_bind
def kNot (u : U) : M U := M.bind (truU u) fun c => okP (.bl (!c))
theorem wE_not {a : Ex} : Wp (evE F (.not a) τ) QU E S = Wp (evE F a τ) (kB kNot QU E) E S := by
  simp only [evE]
  exact w_bind
theorem w_kNot {u : U} : Wp (kNot u) QU E S = Wp (truU u) (kM (fun c => U.p (.bl (!c))) QU) E S := wp_bind
def kIte (F : Cf) (a b : Ex) (τ : Lo) (t : Bool) : M U := if t = true then evE F a τ else evE F b τ
theorem w_kIte {a b : Ex} {t : Bool} : Wp (kIte F a b τ t) QU E S = if t = true then Wp (evE F a τ) QU E S else Wp (evE F b τ) QU E S := by cases t <;> rfl
theorem wE_ite {c a b : Ex} : Wp (evE F (.ite c a b) τ) QU E S = Wp (evT F c τ) (kB (kIte F a b τ) QU E) E S := by
  simp only [evE]
  exact w_bind
def kCh3 (F : Cf) (q : Pr) (c : Ex) (τ : Lo) (v r : U) : M U := match r with
  | .p (.bl t) => if t = true then M.bind (evE F c τ) fun w => prE F q [v, w] else okP (.bl false)
  | _ => badM
def kCh2 (F : Cf) (p q : Pr) (c : Ex) (τ : Lo) (u v : U) : M U := M.bind (prE F p [u, v]) (kCh3 F q c τ v)
def kCh1 (F : Cf) (p q : Pr) (b c : Ex) (τ : Lo) (u : U) : M U := M.bind (evE F b τ) (kCh2 F p q c τ u)
theorem wE_chain {p q : Pr} {a b c : Ex} : Wp (evE F (.chain p q a b c) τ) QU E S = Wp (evE F a τ) (kB (kCh1 F p q b c τ) QU E) E S := by
  simp only [evE]
  exact w_bind
theorem w_kCh1 {p q : Pr} {b c : Ex} {u : U} : Wp (kCh1 F p q b c τ u) QU E S = Wp (evE F b τ) (kB (kCh2 F p q c τ u) QU E) E S := w_bind
theorem w_kCh2 {p q : Pr} {c : Ex} {u v : U} : Wp (kCh2 F p q c τ u v) QU E S = Wp (prE F p [u, v]) (kB (kCh3 F q c τ v) QU E) E S := w_bind
theorem w_kCh3 {q : Pr} {c : Ex} {v : U} {t : Bool} : Wp (kCh3 F q c τ v (.p (.bl t))) QU E S = if t = true then Wp (evE F c τ) (kB (fun w => prE F q [v, w]) QU E) E S else QU (.p (.bl false)) S := by
  cases t
  · rfl
  · exact w_bind
def kDh5 (F : Cf) (r : Pr) (d : Ex) (τ : Lo) (w x : U) : M U := match x with
  | .p (.bl t) => if t = true then M.bind (evE F d τ) fun z => prE F r [w, z] else okP (.bl false)
  | _ => badM
def kDh4 (F : Cf) (q r : Pr) (d : Ex) (τ : Lo) (v w : U) : M U := M.bind (prE F q [v, w]) (kDh5 F r d τ w)
def kDh3 (F : Cf) (q r : Pr) (c d : Ex) (τ : Lo) (v x : U) : M U := match x with
  | .p (.bl t) => if t = true then M.bind (evE F c τ) (kDh4 F q r d τ v) else okP (.bl false)
  | _ => badM
def kDh2 (F : Cf) (p q r : Pr) (c d : Ex) (τ : Lo) (u v : U) : M U := M.bind (prE F p [u, v]) (kDh3 F q r c d τ v)
def kDh1 (F : Cf) (p q r : Pr) (b c d : Ex) (τ : Lo) (u : U) : M U := M.bind (evE F b τ) (kDh2 F p q r c d τ u)
theorem wE_chain3 {p q r : Pr} {a b c d : Ex} : Wp (evE F (.chain3 p q r a b c d) τ) QU E S = Wp (evE F a τ) (kB (kDh1 F p q r b c d τ) QU E) E S := by
  simp only [evE]
  exact w_bind
theorem w_kDh1 {p q r : Pr} {b c d : Ex} {u : U} : Wp (kDh1 F p q r b c d τ u) QU E S = Wp (evE F b τ) (kB (kDh2 F p q r c d τ u) QU E) E S := w_bind
theorem w_kDh2 {p q r : Pr} {c d : Ex} {u v : U} : Wp (kDh2 F p q r c d τ u v) QU E S = Wp (prE F p [u, v]) (kB (kDh3 F q r c d τ v) QU E) E S := w_bind
theorem w_kDh3 {q r : Pr} {c d : Ex} {v : U} {t : Bool} : Wp (kDh3 F q r c d τ v (.p (.bl t))) QU E S = if t = true then Wp (evE F c τ) (kB (kDh4 F q r d τ v) QU E) E S else QU (.p (.bl false)) S := by
  cases t
  · rfl
  · exact w_bind
theorem w_kDh4 {q r : Pr} {d : Ex} {v w : U} : Wp (kDh4 F q r d τ v w) QU E S = Wp (prE F q [v, w]) (kB (kDh5 F r d τ w) QU E) E S := w_bind
theorem w_kDh5 {r : Pr} {d : Ex} {w : U} {t : Bool} : Wp (kDh5 F r d τ w (.p (.bl t))) QU E S = if t = true then Wp (evE F d τ) (kB (fun z => prE F r [w, z]) QU E) E S else QU (.p (.bl false)) S := by
  cases t
  · rfl
  · exact w_bind
def kComp2 (m : Bool) (ws : List W) : M U := if m = true then newU (.lst ws) else okP (.lst ws)
def kComp1 (F : Cf) (own : List (Str × Nat)) (tg : Tg) (cond : List Ex) (elt : Ex) (τ : Lo) (u : U) : M (List W) := walkU u fun ws => M.bind (guardM (decide (ws.length ≤ bigLine))) fun _ => compL (compF F own tg cond elt τ) ws
def kComp0 (F : Cf) (m : Bool) (own : List (Str × Nat)) (tg : Tg) (cond : List Ex) (elt : Ex) (τ : Lo) (u : U) : M U := M.bind (kComp1 F own tg cond elt τ u) (kComp2 m)
def kIt (F : Cf) (ip : Option Pr) (us : List U) : M U := itU F ip us
theorem wE_comp {m : Bool} {own : List (Str × Nat)} {tg : Tg} {ip : Option Pr} {its cond : List Ex} {elt : Ex} : Wp (evE F (.comp m own tg ip its cond elt) τ) QU E S = Wp (evEs F its τ) (kB (itU F ip) (kB (kComp0 F m own tg cond elt τ) QU E) E) E S := by
  rw [evE_comp, wp_bind]
  congr 1
  funext us S'
  exact wp_bind
theorem w_kComp0 {m : Bool} {own : List (Str × Nat)} {tg : Tg} {cond : List Ex} {elt : Ex} {w : W} : Wp (kComp0 F m own tg cond elt τ (.p w)) QU E S = match itemsW w with
    | some ws => (ws.length ≤ bigLine ∧ Wp (compL (compF F own tg cond elt τ) ws) (kB (kComp2 m) QU E) E S)
    | none => False := by
  unfold kComp0 kComp1
  rw [w_bind]
  cases h : itemsW w with
  | none =>
    simp only [walkU, h]
    rfl
  | some ws =>
    simp only [walkU, h]
    rw [wp_bind, wp_guard, decide_eq_true_eq]
theorem w_kComp2f {ws : List W} : Wp (kComp2 false ws) QU E S = QU (.p (.lst ws)) S := rfl
theorem w_kComp2t {ws : List W} : Wp (kComp2 true ws) QU E S = QU (.loc S.length) (S ++ [some (.lst ws)]) := rfl
def kCall (F : Cf) (f : String) (bd : List (Sum Nat Dfl)) (us : List U) : M U := match bindA bd us with
  | some vs => F.call f vs
  | none => badM
theorem wE_call {f : String} {bd : List (Sum Nat Dfl)} {es : List Ex} : Wp (evE F (.call f bd es) τ) QU E S = Wp (evEs F es τ) (kB (kCall F f bd) QU E) E S := by
  simp only [evE]
  exact w_bind
def kMe2 (F : Cf) (p : Pr) (es : List Ex) (τ : Lo) (u : U) (_ : Unit) : M U := M.bind (evEs F es τ) fun us => prE F p (u :: us)
def kMe1 (F : Cf) (p : Pr) (es : List Ex) (τ : Lo) (u : U) : M U := M.bind (recvOk p u) (kMe2 F p es τ u)
theorem wE_meth {p : Pr} {o : Ex} {es : List Ex} : Wp (evE F (.meth p o es) τ) QU E S = Wp (evE F o τ) (kB (kMe1 F p es τ) QU E) E S := by
  simp only [evE]
  exact w_bind
theorem w_kMe1 {p : Pr} {es : List Ex} {u : U} : Wp (kMe1 F p es τ u) QU E S = Wp (recvOk p u) (kB (kMe2 F p es τ u) QU E) E S := w_bind
theorem w_kMe2 {p : Pr} {es : List Ex} {u : U} {x : Unit} : Wp (kMe2 F p es τ u x) QU E S = Wp (evEs F es τ) (kB (fun us => prE F p (u :: us)) QU E) E S := w_bind
def kMc2 (F : Cf) (f : String) (bd : List (Sum Nat Dfl)) (u : U) (us : List U) : M U := match bindA bd (u :: us) with
  | some vs => F.call f vs
  | none => badM
def kMc1 (F : Cf) (f : String) (bd : List (Sum Nat Dfl)) (es : List Ex) (τ : Lo) (u : U) (_ : Unit) : M U := M.bind (evEs F es τ) (kMc2 F f bd u)
def kMc0 (F : Cf) (C : String) (m : Str) (f : String) (bd : List (Sum Nat Dfl)) (es : List Ex) (τ : Lo) (u : U) : M U := M.bind (isIns C m u) (kMc1 F f bd es τ u)
theorem wE_mcall {C : String} {m : Str} {f : String} {o : Ex} {bd : List (Sum Nat Dfl)} {es : List Ex} : Wp (evE F (.mcall C m f o bd es) τ) QU E S = Wp (evE F o τ) (kB (kMc0 F C m f bd es τ) QU E) E S := by
  simp only [evE]
  exact w_bind
theorem w_kMc0 {C : String} {m : Str} {f : String} {bd : List (Sum Nat Dfl)} {es : List Ex} {u : U} : Wp (kMc0 F C m f bd es τ u) QU E S = Wp (isIns C m u) (kB (kMc1 F f bd es τ u) QU E) E S := w_bind
theorem w_kMc1 {f : String} {bd : List (Sum Nat Dfl)} {es : List Ex} {u : U} {x : Unit} : Wp (kMc1 F f bd es τ u x) QU E S = Wp (evEs F es τ) (kB (kMc2 F f bd u) QU E) E S := w_bind
def kNew (F : Cf) (C : String) (bd : List (Sum Nat Dfl)) (us : List U) : M U := match bindA bd us with
  | some vs => newO F C vs
  | none => badM
theorem wE_new {C : String} {bd : List (Sum Nat Dfl)} {es : List Ex} : Wp (evE F (.new C bd es) τ) QU E S = Wp (evEs F es τ) (kB (kNew F C bd) QU E) E S := by
  simp only [evE]
  exact w_bind
theorem wE_fld {o : Ex} {f : Str} : Wp (evE F (.fld o f) τ) QU E S = Wp (evE F o τ) (kB (fldU f) QU E) E S := by
  simp only [evE]
  exact w_bind
theorem wEs_nil : Wp (evEs F [] τ) QL E S = QL [] S := by simp only [evEs]; rfl
def kEs2 (u : U) (us : List U) : M (List U) := fun S => .ok (u :: us) S
def kEs1 (F : Cf) (es : List Ex) (τ : Lo) (u : U) : M (List U) := M.bind (evEs F es τ) (kEs2 u)
theorem wEs_cons {e : Ex} {es : List Ex} : Wp (evEs F (e :: es) τ) QL E S = Wp (evE F e τ) (kB (kEs1 F es τ) QL E) E S := by
  simp only [evEs]
  exact w_bind
theorem w_kEs1 {es : List Ex} {u : U} : Wp (kEs1 F es τ u) QL E S = Wp (evEs F es τ) (kB (kEs2 u) QL E) E S := w_bind
theorem w_kEs2 {u : U} {us : List U} : Wp (kEs2 u us) QL E S = QL (u :: us) S := rfl
def kTA (F : Cf) (b : Ex) (τ : Lo) (c : Bool) : M Bool := if c = true then evT F b τ else fun S => .ok false S
def kTO (F : Cf) (b : Ex) (τ : Lo) (c : Bool) : M Bool := if c = true then fun S => .ok true S else evT F b τ
def kTN (c : Bool) : M Bool := fun S => .ok (!c) S
theorem wT_and {a b : Ex} : Wp (evT F (.and a b) τ) QB E S = Wp (evT F a τ) (kB (kTA F b τ) QB E) E S := by
  simp only [evT]
  exact w_bind
theorem wT_or {a b : Ex} : Wp (evT F (.or a b) τ) QB E S = Wp (evT F a τ) (kB (kTO F b τ) QB E) E S := by
  simp only [evT]
  exact w_bind
theorem wT_not {a : Ex} : Wp (evT F (.not a) τ) QB E S = Wp (evT F a τ) (kB kTN QB E) E S := by
  simp only [evT]
  exact w_bind
theorem w_kTA {b : Ex} {c : Bool} : Wp (kTA F b τ c) QB E S = if c = true then Wp (evT F b τ) QB E S else QB false S := by cases c <;> rfl
theorem w_kTO {b : Ex} {c : Bool} : Wp (kTO F b τ c) QB E S = if c = true then QB true S else Wp (evT F b τ) QB E S := by cases c <;> rfl
theorem w_kTN {c : Bool} : Wp (kTN c) QB E S = QB (!c) S := rfl
theorem wT_var {i : Nat} : Wp (evT F (.var i) τ) QB E S = Wp (evE F (.var i) τ) (kB truU QB E) E S := by
  simp only [evT, evE]
  exact w_bind
theorem wT_cst {w : W} : Wp (evT F (.cst w) τ) QB E S = Wp (truU (.p w)) QB E S := by
  simp only [evT]
  rw [w_bind]
  rfl
theorem wT_pr {p : Pr} {es : List Ex} : Wp (evT F (.pr p es) τ) QB E S = Wp (evE F (.pr p es) τ) (kB truU QB E) E S := by
  simp only [evT, evE]
  exact w_bind
theorem wT_chain {p q : Pr} {a b c : Ex} : Wp (evT F (.chain p q a b c) τ) QB E S = Wp (evE F (.chain p q a b c) τ) (kB truU QB E) E S := by
  simp only [evT, evE]
  exact w_bind
theorem wT_chain3 {p q r : Pr} {a b c d : Ex} : Wp (evT F (.chain3 p q r a b c d) τ) QB E S = Wp (evE F (.chain3 p q r a b c d) τ) (kB truU QB E) E S := by
  simp only [evT, evE]
  exact w_bind
theorem wT_call {f : String} {bd : List (Sum Nat Dfl)} {es : List Ex} : Wp (evT F (.call f bd es) τ) QB E S = Wp (evE F (.call f bd es) τ) (kB truU QB E) E S := by
  simp only [evT, evE]
  exact w_bind
theorem wT_meth {p : Pr} {o : Ex} {es : List Ex} : Wp (evT F (.meth p o es) τ) QB E S = Wp (evE F (.meth p o es) τ) (kB truU QB E) E S := by
  simp only [evT, evE]
  exact w_bind
theorem wT_mcall {C : String} {m : Str} {f : String} {o : Ex} {bd : List (Sum Nat Dfl)} {es : List Ex} : Wp (evT F (.mcall C m f o bd es) τ) QB E S = Wp (evE F (.mcall C m f o bd es) τ) (kB truU QB E) E S := by
  simp only [evT, evE]
  exact w_bind
theorem wT_fld {o : Ex} {f : Str} : Wp (evT F (.fld o f) τ) QB E S = Wp (evE F (.fld o f) τ) (kB truU QB E) E S := by
  simp only [evT, evE]
  exact w_bind
def kC (F : Cf) (cs : List Ex) (τ : Lo) (b : Bool) : M Bool := if b = true then evC F cs τ else fun S => .ok false S
theorem wC_nil : Wp (evC F [] τ) QB E S = QB true S := by simp only [evC]; rfl
theorem wC_cons {c : Ex} {cs : List Ex} : Wp (evC F (c :: cs) τ) QB E S = Wp (evT F c τ) (kB (kC F cs τ) QB E) E S := by
  simp only [evC]
  exact w_bind
theorem w_kC {cs : List Ex} {c : Bool} : Wp (kC F cs τ c) QB E S = if c = true then Wp (evC F cs τ) QB E S else QB false S := by cases c <;> rfl
/-- a comprehension's turn -/
def kCf2 (F : Cf) (elt : Ex) (τ : Lo) (b : Bool) : M (Option W) := if b = true then M.bind (evE F elt τ) fun v => M.bind (frU v) fun y => fun S => .ok (some y) S else fun S => .ok none S
theorem w_compF {own : List (Str × Nat)} {tg : Tg} {cond : List Ex} {elt : Ex} {w : W} {QO : Option W → Sto → Prop} (h : bindTg tg w (wipeL τ (own.map (·.2))) = some τ1) : Wp (compF F own tg cond elt τ w) QO E S = Wp (evC F cond τ1) (kB (kCf2 F elt τ1) QO E) E S := by
  unfold compF
  rw [h]
  exact w_bind
def kCf3 (v : U) : M (Option W) := M.bind (frU v) fun y => fun S => .ok (some y) S
theorem w_kCf2 {elt : Ex} {b : Bool} {QO : Option W → Sto → Prop} : Wp (kCf2 F elt τ b) QO E S = if b = true then Wp (evE F elt τ) (kB kCf3 QO E) E S else QO none S := by
  cases b
  · rfl
  · exact w_bind
theorem w_kCf3 {w : W} {QO : Option W → Sto → Prop} : Wp (kCf3 (.p w)) QO E S = QO (some w) S := rfl
theorem wS_expr {e : Ex} : Wp (evS F (.expr e) τ) QF E S = Wp (evE F e τ) (kB (fun _ => nxt τ) QF E) (kX τ QF) S := by
  simp only [evS]
  exact w_inS
theorem wS_asg {i : Nat} {e : Ex} : Wp (evS F (.asg (.nm i) e) τ) QF E S = Wp (evE F e τ) (kB (fun u => nxt (τ.set i (some u))) QF E) (kX τ QF) S := by
  simp only [evS]
  exact w_inS
def kAsT (ts : List Tg) (τ : Lo) (u : U) : M Fl := M.bind (rdU u) fun w => match bindTg (.tp ts) w τ with
  | some τ1 => nxt τ1
  | none => badM
theorem wS_asT {ts : List Tg} {e : Ex} : Wp (evS F (.asg (.tp ts) e) τ) QF E S = Wp (evE F e τ) (kB (kAsT ts τ) QF E) (kX τ QF) S := by
  simp only [evS]
  exact w_inS
theorem w_kAsT {ts : List Tg} {w : W} : Wp (kAsT ts τ (.p w)) QF E S = match bindTg (.tp ts) w τ with
    | some τ1 => QF (.nx τ1) S
    | none => False := by
  unfold kAsT
  rw [wp_bind, wp_rdp]
  cases bindTg (.tp ts) w τ <;> rfl
def kPar (is : List Nat) (τ : Lo) (us : List U) : M Fl := match setsL is us τ with
  | some τ1 => nxt τ1
  | none => badM
theorem wS_par {is : List Nat} {es : List Ex} : Wp (evS F (.par is es) τ) QF E S = Wp (evEs F es τ) (kB (kPar is τ) QF E) (kX τ QF) S := by
  simp only [evS]
  exact w_inSs
theorem w_kPar {is : List Nat} {us : List U} : Wp (kPar is τ us) QF E S = match setsL is us τ with
    | some τ1 => QF (.nx τ1) S
    | none => False := by
  unfold kPar
  cases setsL is us τ <;> rfl
def kSx3 (τ : Lo) (u a j : U) : M Fl := M.bind (frU u) fun w => M.bind (setIxM a j w) fun _ => nxt τ
def kSx2 (F : Cf) (i : Ex) (τ : Lo) (u a : U) : M Fl := inS (evE F i τ) τ (kSx3 τ u a)
def kSx1 (F : Cf) (o i : Ex) (τ : Lo) (u : U) : M Fl := inS (evE F o τ) τ (kSx2 F i τ u)
theorem wS_setix {o i e : Ex} : Wp (evS F (.setix o i e) τ) QF E S = Wp (evE F e τ) (kB (kSx1 F o i τ) QF E) (kX τ QF) S := by
  simp only [evS]
  exact w_inS
theorem w_kSx1 {o i : Ex} {u : U} : Wp (kSx1 F o i τ u) QF E S = Wp (evE F o τ) (kB (kSx2 F i τ u) QF E) (kX τ QF) S := w_inS
theorem w_kSx2 {i : Ex} {u a : U} : Wp (kSx2 F i τ u a) QF E S = Wp (evE F i τ) (kB (kSx3 τ u a) QF E) (kX τ QF) S := w_inS
theorem w_kSx3 {w : W} {a j : U} : Wp (kSx3 τ (.p w) a j) QF E S = Wp (setIxM a j w) (kM (fun _ => Fl.nx τ) QF) E S := by
  unfold kSx3
  rw [wp_bind, wp_frp, wp_bind]
  rfl
def kSy3 (j : Nat) (τ : Lo) (x y : W) (a k : U) : M Fl := M.bind (setIxM a k x) fun _ => nxt (τ.set j (some (.p y)))
def kSy2 (F : Cf) (i : Ex) (j : Nat) (τ : Lo) (x y : W) (a : U) : M Fl := inS (evE F i τ) τ (kSy3 j τ x y a)
def kSy1 (F : Cf) (o i : Ex) (j : Nat) (τ : Lo) (u : U) : M Fl := M.bind (rdU u) fun w => match w with
  | .tup [x, y] => inS (evE F o τ) τ (kSy2 F i j τ x y)
  | _ => badM
theorem wS_setix2 {o i e : Ex} {j : Nat} : Wp (evS F (.setix2 o i j e) τ) QF E S = Wp (evE F e τ) (kB (kSy1 F o i j τ) QF E) (kX τ QF) S := by
  simp only [evS]
  exact w_inS
theorem w_kSy1 {o i : Ex} {j : Nat} {x y : W} : Wp (kSy1 F o i j τ (.p (.tup [x, y]))) QF E S = Wp (evE F o τ) (kB (kSy2 F i j τ x y) QF E) (kX τ QF) S := w_inS
theorem w_kSy2 {i : Ex} {j : Nat} {x y : W} {a : U} : Wp (kSy2 F i j τ x y a) QF E S = Wp (evE F i τ) (kB (kSy3 j τ x y a) QF E) (kX τ QF) S := w_inS
theorem w_kSy3 {j : Nat} {x y : W} {a k : U} : Wp (kSy3 j τ x y a k) QF E S = Wp (setIxM a k x) (kM (fun _ => Fl.nx (τ.set j (some (.p y)))) QF) E S := wp_bind
def kSf2 (f : Str) (τ : Lo) (u a : U) : M Fl := M.bind (frU u) fun w => M.bind (setFM a f w) fun _ => nxt τ
def kSf1 (F : Cf) (o : Ex) (f : Str) (τ : Lo) (u : U) : M Fl := inS (evE F o τ) τ (kSf2 f τ u)
theorem wS_setf {o e : Ex} {f : Str} : Wp (evS F (.setf o f e) τ) QF E S = Wp (evE F e τ) (kB (kSf1 F o f τ) QF E) (kX τ QF) S := by
  simp only [evS]
  exact w_inS
theorem w_kSf1 {o : Ex} {f : Str} {u : U} : Wp (kSf1 F o f τ u) QF E S = Wp (evE F o τ) (kB (kSf2 f τ u) QF E) (kX τ QF) S := w_inS
theorem w_kSf2 {f : Str} {w : W} {a : U} : Wp (kSf2 f τ (.p w) a) QF E S = Wp (setFM a f w) (kM (fun _ => Fl.nx τ) QF) E S := by
  unfold kSf2
  rw [wp_bind, wp_frp, wp_bind]
  rfl
def kAu (F : Cf) (i : Nat) (p : Pr) (τ : Lo) (x y : U) : M Fl := inS (augM p x y F) τ fun z => nxt (τ.set i (some z))
theorem wS_aug {i : Nat} {p : Pr} {e : Ex} : Wp (evS F (.aug i p e) τ) QF E S = match τ[i]? with
    | some (some x) => Wp (evE F e τ) (kB (kAu F i p τ x) QF E) (kX τ QF) S
    | _ => False := by
  simp only [evS]
  rcases τ[i]? with _ | _ | u
  · rfl
  · rfl
  · exact w_inS
theorem w_kAu {i : Nat} {p : Pr} {x y : U} : Wp (kAu F i p τ x y) QF E S = Wp (augM p x y F) (kM (fun z => Fl.nx (τ.set i (some z))) QF) (kX τ QF) S := wp_inS
theorem wS_ret {e : Ex} : Wp (evS F (.ret e) τ) QF E S = Wp (evE F e τ) (kM Fl.rt QF) (kX τ QF) S := by
  simp only [evS]
  exact wp_inS
theorem wS_retN : Wp (evS F .retN τ) QF E S = QF (.rt (.p .non)) S := by simp only [evS]; rfl
def kIf (F : Cf) (a b : List Stx) (τ : Lo) (t : Bool) : M Fl := if t = true then evB F a τ else evB F b τ
theorem wS_ifs {c : Ex} {a b : List Stx} : Wp (evS F (.ifs c a b) τ) QF E S = Wp (evT F c τ) (kB (kIf F a b τ) QF E) (kX τ QF) S := by
  simp only [evS]
  exact w_inSb
theorem w_kIf {a b : List Stx} {t : Bool} : Wp (kIf F a b τ t) QF E S = if t = true then Wp (evB F a τ) QF E S else Wp (evB F b τ) QF E S := by cases t <;> rfl
def kFor (F : Cf) (tg : Tg) (b : List Stx) (τ : Lo) (u : U) : M Fl := walkS u fun ws => forL (evB F b) tg ws τ
theorem wS_for {tg : Tg} {ip : Option Pr} {its : List Ex} {b : List Stx} : Wp (evS F (.for_ tg ip its b) τ) QF E S = Wp (evEs F its τ) (kB (itU F ip) (kB (kFor F tg b τ) QF E) (kX τ QF)) (kX τ QF) S := by
  simp only [evS]
  rw [w_inS, w_bind]
  rfl
theorem w_kFor {tg : Tg} {b : List Stx} {w : W} : Wp (kFor F tg b τ (.p w)) QF E S = match itemsW w with
    | some ws => Wp (forL (evB F b) tg ws τ) QF E S
    | none => False := by
  unfold kFor walkS
  cases h : itemsW w <;> simp only [h] <;> rfl
theorem wS_whl {c : Ex} {b : List Stx} : Wp (evS F (.whl c b) τ) QF E S = Wp (whlL (evT F c) (evB F b) F.wh τ) QF E S := by simp only [evS]
theorem wS_brk : Wp (evS F .brk τ) QF E S = QF (.bk τ) S := by simp only [evS]; rfl
theorem wS_cnt : Wp (evS F .cnt τ) QF E S = QF (.ct τ) S := by simp only [evS]; rfl
theorem wS_pass : Wp (evS F .pass τ) QF E S = QF (.nx τ) S := by simp only [evS]; rfl
def kRai (C : String) (fs : List Str) (τ : Lo) (us : List U) : M Fl := M.bind (frUs us) fun ws => fun S => .ok (.ex C (fs.zip ws) τ) S
theorem wS_raise {C : String} {fs : List Str} {es : List Ex} : Wp (evS F (.raise C fs es) τ) QF E S = Wp (evEs F es τ) (kB (kRai C fs τ) QF E) (kX τ QF) S := by
  simp only [evS]
  exact w_inSs
theorem wS_thru {b : List Stx} : Wp (evS F (.thru b) τ) QF E S = Wp (evB F b τ) QF E S := by simp only [evS]
theorem w_itN {u : U} : Wp (itU F none [u]) QU E S = QU u S := rfl
theorem w_itP {p : Pr} {us : List U} : Wp (itU F (some p) us) QU E S = Wp (prE F p us) QU E S := by
  unfold itU
  rfl
theorem wp_of_run {a : α} {S' : Sto} (h : m S = .ok a S') (q : Q a S') : Wp m Q E S := by
  unfold Wp
  rw [h]
  exact q
/-- a call, by its def's body -/
theorem w_call {P : Pg} {k : Nat} {f : String} {d : Fn} {us : List U} (hf : P.fn f = some d) (hl : us.length = d.np)
    (h : Wp (evB ⟨callM P k, P.glob, P.wh⟩ d.body (us.map some ++ List.replicate (d.n - d.np) none)) (kF d.keep S.length QU E) (fun _ _ _ => False) S) : Wp (callM P (k + 1) f us) QU E S := by
  refine wp_call hf hl (h.mono (fun fl S' q => ?_) fun _ _ _ z => z)
  cases fl <;> exact q
/-! primitives -/
theorem w_ofOpt {o : Option α} : Wp (ofOpt o) Q E S = match o with
    | some a => Q a S
    | none => False := by cases o <;> rfl
theorem w_truU {w : W} : Wp (truU (.p w)) QB E S = match truW w with
    | some b => QB b S
    | none => False := by
  show Wp (ofOpt (truW w)) QB E S = _
  cases truW w <;> rfl
theorem w_truL {n : Nat} : Wp (truU (.loc n)) QB E S = match S[n]? with
    | some (some o) => (match truW o.frz with
      | some b => QB b S
      | none => False)
    | _ => False := by
  unfold truU
  rw [wp_bind, wp_rdl']
  rcases S[n]? with _ | _ | o
  · rfl
  · rfl
  · simp only
    cases truW o.frz <;> rfl
def oW (o : Option W) (QU : U → Sto → Prop) (S : Sto) : Prop := match o with
  | some w => QU (.p w) S
  | none => False
theorem oW_s {w : W} : oW (some w) QU S = QU (.p w) S := rfl
theorem oW_n : oW none QU S = False := rfl
theorem oW_i {c : Prop} [Decidable c] {a b : Option W} : oW (if c then a else b) QU S = if c then oW a QU S else oW b QU S := by split <;> rfl
theorem w_oW {o : Option W} : Wp (match o with
    | some w => okP w
    | none => badM) QU E S = oW o QU S := by cases o <;> rfl
theorem w_p1 {g : W → Option W} {x : W} : Wp (p1 g [.p x]) QU E S = oW (g x) QU S := by
  unfold p1
  rw [wp_bind, wp_rdp]
  exact w_oW
theorem w_p1l {g : W → Option W} {n : Nat} : Wp (p1 g [.loc n]) QU E S = match S[n]? with
    | some (some o) => oW (g o.frz) QU S
    | _ => False := by
  unfold p1
  rw [wp_bind, wp_rdl']
  rcases S[n]? with _ | _ | o
  · rfl
  · rfl
  · exact w_oW
theorem w_p2 {g : W → W → Option W} {x y : W} : Wp (p2 g [.p x, .p y]) QU E S = oW (g x y) QU S := by
  unfold p2
  rw [wp_bind, wp_rdp, wp_bind, wp_rdp]
  exact w_oW
theorem w_p2l {g : W → W → Option W} {n : Nat} {y : W} : Wp (p2 g [.loc n, .p y]) QU E S = match S[n]? with
    | some (some o) => oW (g o.frz y) QU S
    | _ => False := by
  unfold p2
  rw [wp_bind, wp_rdl']
  rcases S[n]? with _ | _ | o
  · rfl
  · rfl
  · exact w_oW
theorem w_p2r {g : W → W → Option W} {n : Nat} {x : W} : Wp (p2 g [.p x, .loc n]) QU E S = match S[n]? with
    | some (some o) => oW (g x o.frz) QU S
    | _ => False := by
  unfold p2
  rw [wp_bind, wp_rdp, wp_bind, wp_rdl']
  rcases S[n]? with _ | _ | o
  · rfl
  · rfl
  · exact w_oW
theorem eqF_pp {f : String → List U → M U} {x y : W} : eqF f (.p x) (.p y) = f := rfl
theorem w_eq {x y : W} : Wp (prE F .eq [.p x, .p y]) QU E S = Wp (eqM F.call x y) (kM (fun r => U.p (.bl r)) QU) E S := by
  unfold prE
  rw [wp_bind, wp_rdp, wp_bind, wp_rdp, wp_bind]
  rfl
theorem wp_eqO {f : String → List U → M U} {C : String} {fs gs : List (Str × W)} {Q : Bool → Sto → Prop} {E : WE} {S : Sto} : Wp (eqM f (.obj C fs) (.obj C gs)) Q E S = Wp (f (C ++ ".__eq__") [.p (.obj C fs), .p (.obj C gs)]) (fun v S' => match v with
    | .p (.bl r) => Q r S'
    | _ => False) E S := by
  have e : eqM f (.obj C fs) (.obj C gs) = if C = C then M.bind (f (C ++ ".__eq__") [.p (.obj C fs), .p (.obj C gs)]) fun v => (match v with
      | .p (.bl r) => fun S => .ok r S
      | _ => fun _ => .bad) else fun _ => .bad := rfl
  rw [e, if_pos rfl, wp_bind]
  refine congrArg (fun q => Wp _ q E S) ?_
  funext v S'
  cases v with
  | loc n => rfl
  | p w => cases w <;> rfl
theorem w_ne {x y : W} : Wp (prE F .ne [.p x, .p y]) QU E S = Wp (eqM F.call x y) (kM (fun r => U.p (.bl (!r))) QU) E S := by
  unfold prE
  rw [wp_bind, wp_rdp, wp_bind, wp_rdp, wp_bind]
  rfl
theorem w_eql {n : Nat} {y : W} : Wp (prE F .eq [.loc n, .p y]) QU E S = match S[n]? with
    | some (some o) => Wp (eqM noF o.frz y) (kM (fun r => U.p (.bl r)) QU) E S
    | _ => False := by
  unfold prE
  rw [wp_bind, wp_rdl']
  rcases S[n]? with _ | _ | o
  · rfl
  · rfl
  · simp only [wp_bind, wp_rdp]
    rfl
theorem w_nel {n : Nat} {y : W} : Wp (prE F .ne [.loc n, .p y]) QU E S = match S[n]? with
    | some (some o) => Wp (eqM noF o.frz y) (kM (fun r => U.p (.bl (!r))) QU) E S
    | _ => False := by
  unfold prE
  rw [wp_bind, wp_rdl']
  rcases S[n]? with _ | _ | o
  · rfl
  · rfl
  · simp only [wp_bind, wp_rdp]
    rfl
theorem w_tup {us : List U} : Wp (prE F .tup us) QU E S = Wp (frUs us) (kM (fun ws => U.p (.tup ws)) QU) E S := by
  unfold prE
  rw [wp_bind]
  rfl
theorem w_lst {us : List U} : Wp (prE F (.lst false) us) QU E S = Wp (frUs us) (kM (fun ws => U.p (.lst ws)) QU) E S := by
  unfold prE
  rw [wp_bind]
  rfl
theorem w_lstT {us : List U} : Wp (prE F (.lst true) us) QU E S = Wp (frUs us) (kB (fun ws => newU (.lst ws)) QU E) E S := by
  unfold prE
  exact w_bind
theorem w_frUs0 {Q : List W → Sto → Prop} : Wp (frUs []) Q E S = Q [] S := rfl
theorem w_frUs1 {w : W} {us : List U} {Q : List W → Sto → Prop} : Wp (frUs (.p w :: us)) Q E S = Wp (frUs us) (kM (fun ws => w :: ws) Q) E S := by
  show Wp (M.bind (frU (.p w)) fun w => M.bind (frUs us) fun ws => fun S => .ok (w :: ws) S) Q E S = _
  rw [wp_bind, wp_frp, wp_bind]
  rfl
theorem w_frUsL {n : Nat} {us : List U} {Q : List W → Sto → Prop} : Wp (frUs (.loc n :: us)) Q E S = match S[n]? with
    | some (some o) => Wp (frUs us) (kM (fun ws => o.frz :: ws) Q) E (S.set n none)
    | _ => False := by
  show Wp (M.bind (frU (.loc n)) fun w => M.bind (frUs us) fun ws => fun S => .ok (w :: ws) S) Q E S = _
  rw [wp_bind]
  unfold Wp frU
  rcases h : S[n]? with _ | _ | o
  · simp only [h]
  · simp only [h]
  · simp only [h]
    show Wp (M.bind (frUs us) _) Q E _ = _
    rw [wp_bind]
    rfl
end
end Pm
end
section
set_option Elab.async false
set_option linter.all false
set_option maxHeartbeats 1000000
/-! Ws2: data that these laws share: the pool of numbers, lists of iW, ascending ones. -/
namespace Pm
open PySem
def plainK : W → Bool
  | .ty _ => false
  | .fn _ => false
  | .obj _ _ => false
  | _ => true
def isIntB (w : W) (lo hi : Int) : Bool := match w with
  | .int i => decide (lo ≤ i) && decide (i ≤ hi)
  | _ => false
/-- the numbers' pool at n -/
def PoolAt (S : Sto) (n : Nat) : Prop := ∃ a b c : Int, S[n]? = some (some (.lst [.int a, .int b, .int c]))
/-- nothing but the pool's numbers has changed -/
def PoolTo (S : Sto) (n : Nat) (S' : Sto) : Prop := ∃ a b c : Int, S' = S.set n (some (.lst [.int a, .int b, .int c]))
theorem PoolAt.len {S : Sto} {n : Nat} (h : PoolAt S n) : n < S.length := by
  obtain ⟨a, b, c, e⟩ := h
  exact (List.getElem?_eq_some_iff.mp e).1
theorem PoolTo.at_ {S S' : Sto} {n : Nat} (h : PoolTo S n S') (hn : n < S.length) : PoolAt S' n := by
  obtain ⟨a, b, c, rfl⟩ := h
  exact ⟨a, b, c, List.getElem?_set_self hn⟩
theorem PoolTo.refl {S : Sto} {n : Nat} (h : PoolAt S n) : PoolTo S n S := by
  obtain ⟨a, b, c, e⟩ := h
  exact ⟨a, b, c, by
    obtain ⟨h1, h2⟩ := List.getElem?_eq_some_iff.mp e
    rw [← h2, List.set_getElem_self]⟩
theorem PoolTo.trans {S S1 S2 : Sto} {n : Nat} (h : PoolTo S n S1) (h' : PoolTo S1 n S2) : PoolTo S n S2 := by
  obtain ⟨a, b, c, rfl⟩ := h
  obtain ⟨a', b', c', rfl⟩ := h'
  exact ⟨a', b', c', by rw [List.set_set]⟩
theorem PoolTo.len {S S' : Sto} {n : Nat} (h : PoolTo S n S') : S'.length = S.length := by
  obtain ⟨a, b, c, rfl⟩ := h
  simp
theorem ix30 : ixAt 3 0 = some 0 := rfl
theorem ix31 : ixAt 3 1 = some 1 := rfl
theorem ix32 : ixAt 3 2 = some 2 := rfl
theorem setg {S : Sto} {n : Nat} {x : Option MO} (h : n < S.length) : (S.set n x)[n]? = some x := List.getElem?_set_self h
theorem mulW_l {a b : Int} (h : bit64 a = true) : mulW (.int a) (.int b) = some (.int (a * b)) := by
  simp only [mulW, h, Bool.true_or, if_true]
theorem bit_mod {x : Int} : bit64 (x % 1000000007) = true := by
  simp only [bit64, Bool.and_eq_true, decide_eq_true_eq]
  omega
theorem bit70 : bit64 70001 = true := by decide
theorem dl_30 : (1000000000000000000000000000000 : Int) < divLine := by decide +kernel
theorem dl_le {m : Int} (h : m ≤ 1000000000000000000000000000000) : m < divLine := Int.lt_of_le_of_lt h dl_30
theorem dl {m : Int} (h : m < 1073741824) : m < divLine := dl_le (Int.le_trans (Int.le_of_lt h) (by decide))
theorem fdiv16 {x : Int} : fdivW (.int x) (.int 16) = some (.int (x / 16)) := by
  simp only [fdivW]
  rw [if_pos ⟨by decide, dl (by decide)⟩]
theorem fdiv32 {x : Int} : fdivW (.int x) (.int 32) = some (.int (x / 32)) := by
  simp only [fdivW]
  rw [if_pos ⟨by decide, dl (by decide)⟩]
theorem bit_mod3 {x : Int} : bit64 (x % 1000000103) = true := by
  simp only [bit64, Bool.and_eq_true, decide_eq_true_eq]
  omega
/-- lists of iW -/
abbrev iW (is : List Int) : List W := is.map W.int
theorem ints_flat : ∀ is : List Int, (iW is).all flatW = true
  | [] => rfl
  | _ :: is => by simpa [iW, flatW] using ints_flat is
theorem in_ints {i : Int} : ∀ {is : List Int}, ((iW is).any fun x => eqW (.int i) x) = decide (i ∈ is)
  | [] => rfl
  | j :: is => by
    simp only [iW, List.map_cons, List.any_cons]
    have := in_ints (i := i) (is := is)
    simp only [iW] at this
    rw [this]
    by_cases h : i = j
    · simp [eqW, h]
    · simp [eqW, h]
theorem inW_ints {i : Int} {is : List Int} : inW (.int i) (.tup (iW is)) = some (decide (i ∈ is)) := by
  simp only [inW, ints_flat]
  simp only [flatW, Bool.and_self, if_true, in_ints]
theorem boolsW_all : ∀ {bs : List Bool}, boolsW (bs.map W.bl) = some bs
  | [] => rfl
  | b :: bs => by simp only [List.map_cons, boolsW, boolsW_all (bs := bs), Option.map_some]
/-- ascending, within [lo, hi] -/
def Asc (lo hi : Int) : List Int → Prop
  | [] => True
  | i :: is => lo ≤ i ∧ i ≤ hi ∧ Asc (i + 1) hi is
theorem Asc.mono {lo lo' hi : Int} (h : lo' ≤ lo) : ∀ {is : List Int}, Asc lo hi is → Asc lo' hi is
  | [], _ => trivial
  | _ :: _, ⟨h1, h2, h3⟩ => ⟨by omega, h2, h3⟩
theorem Asc.mem {hi : Int} : ∀ {is : List Int} {lo i : Int}, Asc lo hi is → i ∈ is → lo ≤ i ∧ i ≤ hi
  | j :: is, lo, i, ⟨h1, h2, h3⟩, hm => by
    rcases List.mem_cons.mp hm with e | e
    · subst e; exact ⟨h1, h2⟩
    · have := Asc.mem h3 e
      exact ⟨by omega, this.2⟩
theorem Asc.sub {hi : Int} : ∀ {is js : List Int} {lo : Int}, is.Sublist js → Asc lo hi js → Asc lo hi is
  | _, _, _, .slnil, h => h
  | _, _, _, .cons j s, ⟨h1, h2, h3⟩ => (Asc.sub s h3).mono (by omega)
  | _, _, _, .cons_cons j s, ⟨h1, h2, h3⟩ => ⟨h1, h2, Asc.sub s h3⟩
theorem rng_asc : ∀ (n : Nat) (lo : Int), Asc lo (lo + n - 1) ((List.range n).map fun (i : Nat) => lo + (i : Int))
  | 0, _ => trivial
  | n + 1, lo => by
    rw [List.range_succ_eq_map, List.map_cons]
    refine ⟨by simp, by simp; omega, ?_⟩
    have := rng_asc n (lo + 1)
    have e : lo + 1 + (n : Int) - 1 = lo + ((n + 1 : Nat) : Int) - 1 := by omega
    rw [e] at this
    simp only [List.map_map] at this ⊢
    have e2 : (fun (i : Nat) => lo + ((i + 1 : Nat) : Int)) = fun (i : Nat) => lo + 1 + (i : Int) := by funext i; omega
    have e3 : ((fun (i : Nat) => lo + (i : Int)) ∘ Nat.succ) = fun (i : Nat) => lo + 1 + (i : Int) := by funext i; simp; omega
    rw [e3]
    simpa using this
theorem rng_eq (lo hi : Int) : rng lo hi = iW ((List.range (hi - lo).toNat).map fun (i : Nat) => lo + (i : Int)) := by
  simp only [rng, iW, List.map_map]
  rfl
/-- a comprehension that picks of what it walks -/
theorem wp_compS {f : W → M (Option W)} {I : Sto → Prop} {ws : List W} {Q : List W → Sto → Prop} {E : WE} {S : Sto} (hI : I S) (h : ∀ w ∈ ws, ∀ S, I S → Wp (f w) (fun o S' => I S' ∧ (o = none ∨ o = some w)) E S)
    (hQ : ∀ ys S', I S' → ys.Sublist ws → Q ys S') : Wp (compL f ws) Q E S := by
  have key : ∀ (vs : List W) (S : Sto), (∀ w ∈ vs, w ∈ ws) → I S → Wp (compL f vs) (fun ys S' => I S' ∧ ys.Sublist vs) E S := by
    intro vs
    induction vs with
    | nil => intro S _ hi; exact ⟨hi, .slnil⟩
    | cons v vs ih =>
      intro S hs hi
      simp only [compL, wp_bind]
      refine (h v (hs v (by simp)) S hi).mono (fun o S' ⟨i1, ho⟩ => ?_) fun _ _ _ e => e
      refine (ih S' (fun w hw => hs w (by simp [hw])) i1).mono (fun ys S2 ⟨i2, y2⟩ => ⟨i2, ?_⟩) fun _ _ _ e => e
      rcases ho with rfl | rfl
      · exact .cons _ y2
      · exact .cons_cons _ y2
  exact (key ws S (fun _ h => h) hI).mono (fun ys S' ⟨a, b⟩ => hQ ys S' a b) fun _ _ _ e => e
theorem sub_ints : ∀ {is : List Int} {ys : List W}, ys.Sublist (iW is) → ∃ js : List Int, ys = iW js ∧ js.Sublist is
  | [], ys, h => by
    simp only [iW, List.map_nil, List.sublist_nil] at h
    exact ⟨[], by simp [h], .slnil⟩
  | i :: is, ys, h => by
    simp only [iW, List.map_cons] at h
    cases h with
    | cons _ h =>
      obtain ⟨js, e, s⟩ := sub_ints h
      exact ⟨js, e, .cons _ s⟩
    | cons_cons _ h =>
      obtain ⟨js, e, s⟩ := sub_ints h
      exact ⟨i :: js, by simp [iW, e], .cons_cons _ s⟩
/-- one int for each -/
theorem all2_ints {R : Int → Prop} : ∀ {ws ys : List W}, All2 (fun _ y => ∃ i : Int, y = .int i ∧ R i) ws ys → ∃ is : List Int, ys = iW is ∧ is.length = ws.length ∧ ∀ i ∈ is, R i
  | [], [], .nil => ⟨[], rfl, rfl, by simp⟩
  | _ :: ws, _ :: ys, .cons ⟨i, e, r⟩ h => by
    obtain ⟨is, e2, l, a⟩ := all2_ints h
    refine ⟨i :: is, by simp [iW, e, e2], by simp [l], fun j hj => ?_⟩
    rcases List.mem_cons.mp hj with q | q
    · rw [q]; exact r
    · exact a j q
theorem bools_map {α : Type} {p : α → Bool} : ∀ {l : List α}, boolsW (l.map fun w => W.bl (p w)) = some (l.map p)
  | [] => rfl
  | a :: l => by simp only [List.map_cons, boolsW, bools_map (l := l), Option.map_some]
theorem all_id {α : Type} {p : α → Bool} : ∀ {l : List α}, (l.map p).all id = l.all p
  | [] => rfl
  | a :: l => by simp only [List.map_cons, List.all_cons, all_id (l := l), id]
theorem wp_optI {i : Int} {Q : Option Int → Sto → Prop} {E : WE} {S : Sto} : Wp (optI (.p (.int i))) Q E S = Q (some i) S := rfl
theorem asc_ints {lo hi : Int} : ∀ {is : List Int}, Asc lo hi is → (iW is).all (fun w => isIntB w lo hi) = true := fun {is} h => by
  rw [List.all_eq_true]
  intro w hw
  obtain ⟨i, hi, rfl⟩ := List.mem_map.mp hw
  have := h.mem hi
  simp [isIntB, this]
def ltP : W → Bool
  | .tup [.int a, .int b] => decide (a < b)
  | _ => false
theorem asc_zip {hi : Int} : ∀ {is : List Int} {lo : Int}, Asc lo hi is → (zipL (iW is) ((iW is).drop 1)).all ltP = true
  | [], _, _ => rfl
  | [_], _, _ => rfl
  | i :: j :: is, lo, ⟨h1, h2, h3⟩ => by
    have := asc_zip h3
    obtain ⟨g1, _, _⟩ := h3
    simp only [iW, List.map_cons, List.drop_succ_cons, List.drop_zero, zipL, List.zipWith_cons_cons, List.all_cons, Bool.and_eq_true, ltP, decide_eq_true_eq] at this ⊢
    exact ⟨by omega, this⟩
theorem cut_from {α : Type} {xs : List α} (k : Nat) : cutL xs (some (k : Int)) none = xs.drop k := by
  unfold cutL
  rw [HT.sIx_nat, HT.sIx_none]
  by_cases h : k ≤ xs.length
  · rw [Nat.min_eq_left h, List.take_of_length_le (by simp)]
  · rw [Nat.min_eq_right (by omega), List.drop_length, List.drop_of_length_le (by omega)]
    simp
theorem cut_to {α : Type} {xs : List α} (k : Nat) : cutL xs none (some (k : Int)) = xs.take k := by
  unfold cutL
  rw [HT.sIx_nat, HT.sIx_none]
  by_cases h : k ≤ xs.length
  · rw [Nat.min_eq_left h]; simp
  · rw [Nat.min_eq_right (by omega), List.drop_zero, Nat.sub_zero, List.take_length, List.take_of_length_le (by omega)]
theorem cut1 {α : Type} {xs : List α} : cutL xs (some 1) none = xs.drop 1 := cut_from 1
theorem cut_3 {α : Type} {xs : List α} : cutL xs none (some 3) = xs.take 3 := cut_to 3
theorem data_nil : dataW (.tup []) = true := by decide
theorem eq_nil {S : Sto} {f : String → List U → M U} {Q : Bool → Sto → Prop} {E : WE} : Wp (eqM f (.tup []) (.tup [])) Q E S = Q true S := by
  unfold Wp eqM
  rw [data_nil]
  simp only [Bool.and_self, if_true, eqW, eqWs]
theorem mul_one {n : Int} (h : 2 ≤ n) (h' : n ≤ 1000) : mulW (.tup [.int 1]) (.int n) = some (.tup (rptL n.toNat [.int 1])) := by
  simp only [mulW]
  rw [if_pos ⟨by simp, h, h', by simp⟩]
theorem app_get {S : Sto} {x : Option MO} : (S ++ [x])[S.length]? = some x := by simp
theorem app_set {S : Sto} {x y : Option MO} : (S ++ [x]).set S.length y = S ++ [y] := by simp
theorem app_len {S : Sto} {x : Option MO} : (S ++ [x]).length = S.length + 1 := by simp
theorem app_take {S : Sto} {x : Option MO} : (S ++ [x]).take S.length = S := by simp
theorem app_take1 {S : Sto} {x : Option MO} : (S ++ [x]).take (S.length + 1) = S ++ [x] := List.take_of_length_le (by simp)
/-- a ring -/
def ringW (n : Int) (ls ws : List Int) (ps : List W) : W := .obj "Ring" [("size", .int n), ("locks", .tup (iW ls)), ("walls", .tup (iW ws)), ("prices", .tup ps)]
theorem wp_eqI {f : String → List U → M U} {a b : Int} {S : Sto} {Q : Bool → Sto → Prop} {E : WE} : Wp (eqM f (.int a) (.int b)) Q E S = Q (a == b) S := rfl
theorem wp_eqB {f : String → List U → M U} {a b : Bool} {S : Sto} {Q : Bool → Sto → Prop} {E : WE} : Wp (eqM f (.bl a) (.bl b)) Q E S = Q (a == b) S := rfl
theorem wp_eqS {f : String → List U → M U} {a b : Str} {S : Sto} {Q : Bool → Sto → Prop} {E : WE} (ha : dataW (.str a) = true) (hb : dataW (.str b) = true) : Wp (eqM f (.str a) (.str b)) Q E S = Q (a == b) S := by
  unfold Wp eqM
  rw [ha, hb]
  simp only [Bool.and_self, if_true, eqW]
theorem bnd_nm {a : Nat} {w : W} {τ : Lo} : bindTg (.nm a) w τ = some (τ.set a (some (.p w))) := rfl
theorem bnd_2 {a b : Nat} {x y : W} {τ : Lo} : bindTg (.tp [.nm a, .nm b]) (.tup [x, y]) τ = some ((τ.set a (some (.p x))).set b (some (.p y))) := rfl
theorem bnd_3 {a b c : Nat} {x y z : W} {τ : Lo} : bindTg (.tp [.nm a, .nm b, .nm c]) (.tup [x, y, z]) τ = some (((τ.set a (some (.p x))).set b (some (.p y))).set c (some (.p z))) := rfl
theorem bnd_4 {a b c d : Nat} {x y z w : W} {τ : Lo} : bindTg (.tp [.nm a, .nm b, .nm c, .nm d]) (.tup [x, y, z, w]) τ = some ((((τ.set a (some (.p x))).set b (some (.p y))).set c (some (.p z))).set d (some (.p w))) := rfl
theorem inW_two {s a b : Str} : inW (.str s) (.tup [.str a, .str b]) = some (s == a || s == b) := by
  simp only [inW, flatW, List.all_cons, List.all_nil, Bool.and_self, if_true, List.any_cons, List.any_nil, eqW, Bool.or_false]
theorem mulW_l' {a b : Int} (h1 : -18446744073709551616 < a) (h2 : a < 18446744073709551616) : mulW (.int a) (.int b) = some (.int (a * b)) := mulW_l (by simp only [bit64, decide_eq_true_eq]; omega)
theorem mulW_r' {a b : Int} (h1 : -18446744073709551616 < b) (h2 : b < 18446744073709551616) : mulW (.int a) (.int b) = some (.int (a * b)) := by
  have : bit64 b = true := by simp only [bit64, decide_eq_true_eq]; omega
  simp only [mulW, this, Bool.or_true, Bool.true_or, if_true]
theorem ixN_ok {n k : Nat} (h : k < n) : ixAt n (k : Int) = some k := by
  unfold ixAt L2.ixN
  simp [h]
theorem ixI_ok {n : Nat} {i : Int} (h0 : 0 ≤ i) (h : i < n) : ixAt n i = some i.toNat := by
  obtain ⟨k, rfl⟩ := Int.eq_ofNat_of_zero_le h0
  rw [ixN_ok (by omega)]
  rfl
theorem beq_str {a b : Str} : (a == b) = decide (a = b) := by
  by_cases h : a = b <;> simp [h]
theorem powW_c : powW (.int 10) (.int 18) = some (.int 1000000000000000000) := by
  simp only [powW]
  rw [if_pos (by decide)]
  rfl
theorem n22 : (((2 : Nat) : Int) == 2) = true := rfl
theorem ix20 : ixAt 2 0 = some 0 := rfl
theorem ix21 : ixAt 2 1 = some 1 := rfl
end Pm
end
section
set_option Elab.async false
set_option linter.all false
set_option maxHeartbeats 1000000
/-! Ws3: shown texts: how long, which signs. -/
namespace Pm
open PySem
abbrev sI (i : Int) : Str := Str.ofString (toString i)
theorem len_ofS (s : String) : (Str.ofString s).length = s.length := by
  rw [Str.ofString_eq_toList]
  simp [Str.length, String.length_toList]
theorem app_length (a b : Str) : (a ++ b).length = a.length + b.length := PySem.Str.length_append a b
/-- what is shown, and how long at most -/
def shI (i : Int) : Prop := i.natAbs < 10 ^ 300
theorem shI_len {i : Int} (h : shI i) : (sI i).length ≤ 301 := by
  rw [len_ofS]
  exact int_text_length_le10 (by decide) h
theorem shI_log {i : Int} (h : shI i) : i.natAbs.log2 < 1920 := by
  unfold shI at h
  by_cases hz : i.natAbs = 0
  · rw [hz]; decide
  · rw [Nat.log2_lt hz]
    exact Nat.lt_trans h (by decide +kernel)
theorem shI_line {i : Int} (h : shI i) : i.natAbs < strLine := Nat.lt_trans h (by decide +kernel)
theorem asc_data {s : Str} (h : W.KSb.Asc s) : dataW (.str s) = true := by
  simp only [dataW, dataN, Array.all_eq_true']
  intro c hc
  have := h c (by simpa using hc)
  simp; omega
theorem asc_reprChar : ∀ q c : Nat, (q = 34 ∨ q = 39) → c < 128 → ∀ x ∈ Builtin.Str.reprChar q c, x < 128 := by
  have key : ∀ q ∈ [34, 39], ∀ c ∈ List.range 128, (Builtin.Str.reprChar q c).all (· < 128) = true := by decide +kernel
  intro q c hq hc x hx
  have := key q (by rcases hq with rfl | rfl <;> simp) c (List.mem_range.mpr hc)
  rw [List.all_eq_true] at this
  simpa using this x hx
theorem asc_repr {s : Str} (h : W.KSb.Asc s) : W.KSb.Asc (reprText s) := by
  have hq : reprQuote s = 34 ∨ reprQuote s = 39 := by
    unfold reprQuote
    split
    · exact .inl rfl
    · exact .inr rfl
  have key : ∀ (l : List Nat) (acc : Array Nat), (∀ c ∈ l, c < 128) → (∀ x ∈ acc.toList, x < 128) → ∀ x ∈ (l.foldl (fun out c => out ++ (Builtin.Str.reprChar (reprQuote s) c).toArray) acc).toList, x < 128 := by
    intro l
    induction l with
    | nil => intro acc _ ha x hx; exact ha x hx
    | cons c l ih =>
      intro acc hl ha x hx
      refine ih _ (fun d hd => hl d (by simp [hd])) (fun y hy => ?_) x hx
      simp only [Array.toList_append, List.mem_append] at hy
      rcases hy with hy | hy
      · exact ha y hy
      · exact asc_reprChar _ c hq (hl c (by simp)) y hy
  intro x hx
  unfold reprText at hx
  simp only [Array.toList_push, List.mem_append, List.mem_singleton, ← Array.foldl_toList] at hx
  rcases hx with hx | rfl
  · exact key _ _ h (by intro y hy; simp at hy; omega) x hx
  · omega
mutual
def costW : W → Nat
  | .non => 4
  | .bl _ => 5
  | .int _ => 301
  | .str s => 10 * s.length + 2
  | .tup xs => 5 + costWs xs
  | .lst xs => 5 + costWs xs
  | _ => 0
def costWs : List W → Nat
  | [] => 0
  | x :: xs => costW x + 2 + costWs xs
end
mutual
def shW : W → Prop
  | .non => True
  | .bl _ => True
  | .int i => shI i
  | .str s => W.KSb.Asc s
  | .tup xs => shWs xs
  | .lst xs => shWs xs
  | _ => False
def shWs : List W → Prop
  | [] => True
  | x :: xs => shW x ∧ shWs xs
end
def pileS (ts : List Str) : Nat := (ts.map fun t => t.length + 2).sum
theorem textFrom_le : ∀ (ts : List Str) (k : Nat) (acc : Str), (textFrom k acc ts).length ≤ acc.length + pileS ts
  | [], k, acc => by simp [textFrom, pileS]
  | t :: ts, k, acc => by
    have ih := textFrom_le ts (k + 1) (acc ++ (if k > 0 then ", " else "" : String) ++ t)
    have e : (((if k > 0 then ", " else "" : String)) : Str).length ≤ 2 := by split <;> decide
    simp only [textFrom]
    rw [app_length, app_length] at ih
    simp only [pileS, List.map_cons, List.sum_cons] at ih ⊢
    omega
theorem listText_le (ts : List Str) : (listText ts).length ≤ 2 + pileS ts := by
  unfold listText
  rw [app_length]
  have := textFrom_le ts 0 "["
  have e1 : (Str.ofString "[").length = 1 := by decide
  have e2 : (Str.ofString "]").length = 1 := by decide
  omega
theorem tupleText_le (ts : List Str) : (tupleText ts).length ≤ 5 + pileS ts := by
  unfold tupleText
  rw [app_length, app_length]
  have e1 : (Str.ofString "(").length = 1 := by decide
  have e2 : (Str.ofString (if ts.length == 1 then ",)" else ")" : String)).length ≤ 2 := by split <;> decide
  have e3 : (Str.join (Str.ofString ", ") ts).length ≤ pileS ts := by
    have := StrLaws.join_length_le (Str.ofString ", ") ts
    have e4 : (Str.ofString ", ").length = 2 := by decide
    rw [e4] at this
    refine Nat.le_trans this ?_
    clear this
    induction ts with
    | nil => simp [pileS]
    | cons t ts ih =>
      have ih := ih (by split <;> decide)
      simp only [pileS, List.map_cons, List.sum_cons, List.length_cons] at ih ⊢
      omega
  omega
mutual
theorem shown_le : ∀ {w : W}, shW w → (toD w).shown.length ≤ costW w ∧ (toD w).showable = true
  | .non, _ => ⟨by decide, rfl⟩
  | .bl b, _ => ⟨by cases b <;> decide, rfl⟩
  | .int i, h => ⟨by simpa only [toD, PyData.shown, costW] using shI_len h, by simp only [toD, PyData.showable, decide_eq_true_eq]; exact shI_log h⟩
  | .str s, h => by
    simp only [shW] at h
    exact ⟨by simp only [toD, PyData.shown, costW]; exact StrLaws.reprText_len s fun c hc => Nat.lt_trans (h c hc) (by decide), rfl⟩
  | .tup xs, h => by
    simp only [shW] at h
    have a := shownAll_le h
    simp only [toD, PyData.shown, PyData.showable, costW]
    have := tupleText_le (PyData.shownAll (toDs xs))
    exact ⟨by omega, a.2⟩
  | .lst xs, h => by
    simp only [shW] at h
    have a := shownAll_le h
    simp only [toD, PyData.shown, PyData.showable, costW]
    have := listText_le (PyData.shownAll (toDs xs))
    exact ⟨by omega, a.2⟩
theorem shownAll_le : ∀ {xs : List W}, shWs xs → pileS (PyData.shownAll (toDs xs)) ≤ costWs xs ∧ PyData.showableAll (toDs xs) = true
  | [], _ => ⟨by simp [pileS, toDs, PyData.shownAll], rfl⟩
  | x :: xs, h => by
    simp only [shWs] at h
    have a := shown_le h.1
    have b := shownAll_le h.2
    simp only [toDs, PyData.shownAll, PyData.showableAll, costWs, a.2, b.2, pileS, List.map_cons, List.sum_cons, Bool.and_self] at b ⊢
    exact ⟨by have := a.1; have := b.1; omega, trivial⟩
end
/-- the text of such a value -/
def txW (w : W) : Str := (toD w).shown
theorem reprW_sh {w : W} (hd : dataW w = true) (h : shW w) (hc : costW w ≤ bigLine) : reprW w = some (txW w) := by
  have a := shown_le h
  unfold reprW
  rw [hd, a.2, decide_eq_true (Nat.le_trans a.1 hc)]
  rfl
theorem shWs_ints : ∀ {is : List Int}, (∀ i ∈ is, shI i) → shWs (iW is)
  | [], _ => by simp [shWs]
  | i :: is, h => by
    simp only [iW, List.map_cons, shWs, shW]
    exact ⟨h i (by simp), shWs_ints fun j hj => h j (by simp [hj])⟩
theorem cost_ints : ∀ {is : List Int}, costWs (iW is) = 303 * is.length
  | [] => rfl
  | i :: is => by
    have := cost_ints (is := is)
    simp only [iW, List.map_cons, costWs, costW, List.length_cons] at this ⊢
    omega
theorem data_ints {n : Nat} : ∀ {is : List Int}, (iW is).all (dataN n) = true
  | [] => rfl
  | i :: is => by
    have := data_ints (n := n) (is := is)
    simp only [iW, List.map_cons, List.all_cons, Bool.and_eq_true] at this ⊢
    exact ⟨by cases n <;> rfl, this⟩
theorem wp_eqX {f : String → List U → M U} {a : W} {S : Sto} {Q : Bool → Sto → Prop} {E : WE} (ha : dataW a = true) (hr : eqW a a = true) : Wp (eqM f a a) Q E S = Q true S := by
  unfold Wp eqM
  rw [ha]
  simp only [Bool.and_self, if_true, hr]
theorem wp_eqSS {f : String → List U → M U} {s : Str} {S : Sto} {Q : Bool → Sto → Prop} {E : WE} (ha : dataW (.str s) = true) : Wp (eqM f (.str s) (.str s)) Q E S = Q true S := wp_eqX ha (by simp [eqW])
/-- joined texts -/
theorem join_eq (sep : Str) (ss : List Str) : Txt.join sep ss = Str.join sep ss := StrLaws.glued_eq_join sep ss
theorem asc_join {sep : Str} (hs : W.KSb.Asc sep) : ∀ {ss : List Str}, (∀ s ∈ ss, W.KSb.Asc s) → W.KSb.Asc (Str.join sep ss)
  | [], _ => W.KSb.asc_empty
  | [x], h => h x (by simp)
  | x :: y :: r, h => W.KSb.asc_app (W.KSb.asc_app (h x (by simp)) hs) (asc_join hs fun s hm => h s (by simp at hm ⊢; rcases hm with e | e <;> simp [e]))
theorem strsW_map : ∀ {ss : List Str}, strsW (ss.map W.str) = some ss
  | [] => rfl
  | s :: ss => by simp only [List.map_cons, strsW, strsW_map (ss := ss), Option.map_some]
theorem sizeS_le {B : Nat} : ∀ {ss : List Str}, (∀ s ∈ ss, s.length ≤ B) → sizeS ss ≤ B * ss.length
  | [], _ => by simp [sizeS]
  | s :: ss, h => by
    have := sizeS_le fun t ht => h t (List.mem_cons_of_mem s ht)
    have := h s (by simp)
    simp only [sizeS, List.map_cons, List.sum_cons, List.length_cons, Nat.mul_add] at *
    omega
theorem asc_textFrom : ∀ (ts : List Str) (k : Nat) (acc : Str), W.KSb.Asc acc → (∀ t ∈ ts, W.KSb.Asc t) → W.KSb.Asc (textFrom k acc ts)
  | [], k, acc, h, _ => h
  | t :: ts, k, acc, h, ht => asc_textFrom ts (k + 1) _ (W.KSb.asc_app (W.KSb.asc_app h (by split <;> exact W.KSb.asc_of (by decide +kernel))) (ht t (by simp))) fun x hx => ht x (by simp [hx])
mutual
theorem asc_shown : ∀ {w : W}, shW w → W.KSb.Asc (toD w).shown
  | .non, _ => W.KSb.asc_of (by decide +kernel)
  | .bl b, _ => by cases b <;> exact W.KSb.asc_of (by decide +kernel)
  | .int i, h => W.KSb.asc_num i
  | .str s, h => by
    simp only [shW] at h
    simp only [toD, PyData.shown]
    exact asc_repr h
  | .tup xs, h => by
    simp only [shW] at h
    have a := asc_shownAll h
    simp only [toD, PyData.shown, tupleText]
    refine W.KSb.asc_app (W.KSb.asc_app (W.KSb.asc_of (by decide +kernel)) (asc_join (W.KSb.asc_of (by decide +kernel)) a)) ?_
    split <;> exact W.KSb.asc_of (by decide +kernel)
  | .lst xs, h => by
    simp only [shW] at h
    have a := asc_shownAll h
    simp only [toD, PyData.shown, listText]
    exact W.KSb.asc_app (asc_textFrom _ _ _ (W.KSb.asc_of (by decide +kernel)) a) (W.KSb.asc_of (by decide +kernel))
theorem asc_shownAll : ∀ {xs : List W}, shWs xs → ∀ t ∈ PyData.shownAll (toDs xs), W.KSb.Asc t
  | [], _, t, h => by simp [toDs, PyData.shownAll] at h
  | x :: xs, h, t, ht => by
    simp only [shWs] at h
    simp only [toDs, PyData.shownAll, List.mem_cons] at ht
    rcases ht with e | e
    · rw [e]; exact asc_shown h.1
    · exact asc_shownAll h.2 t e
end
theorem txW_data {w : W} (h : shW w) : dataW (.str (txW w)) = true := asc_data (asc_shown h)
/-- the text of an int, as a value -/
def sW : W → W
  | .int i => .str (sI i)
  | w => w
theorem strsW_app {a b : List W} {sa sb : List Str} (ha : strsW a = some sa) (hb : strsW b = some sb) : strsW (a ++ b) = some (sa ++ sb) := by
  induction a generalizing sa with
  | nil => simp only [strsW, Option.some.injEq] at ha; subst ha; exact hb
  | cons x a ih =>
    cases x <;> simp only [strsW, reduceCtorEq] at ha
    rw [Option.map_eq_some_iff] at ha
    obtain ⟨s, e, rfl⟩ := ha
    simp only [List.cons_append, strsW, ih e, Option.map_some]
theorem strsW_cons {s : Str} {a : List W} {sa : List Str} (ha : strsW a = some sa) : strsW (.str s :: a) = some (s :: sa) := by simp only [strsW, ha, Option.map_some]
theorem strsW_sI : ∀ {is : List Int}, strsW ((iW is).map sW) = some (is.map sI)
  | [] => rfl
  | i :: is => by
    have := strsW_sI (is := is)
    simp only [iW, List.map_cons, sW] at this ⊢
    exact strsW_cons this
section
variable {QU : U → Sto → Prop} {E : WE} {S : Sto} {f : String → List U → M U}
theorem w_strI {i : Int} (h : shI i) : Wp (strM f (.p (.int i))) QU E S = QU (.p (.str (sI i))) S := by
  unfold Wp strM
  simp only [shI_line h, if_true]
theorem w_reprT {xs : List W} {s : Str} (h : reprW (.tup xs) = some s) : Wp (reprM f (.p (.tup xs))) QU E S = QU (.p (.str s)) S := by
  unfold reprM
  simp only [h]
  rfl
theorem w_reprL {xs : List W} {s : Str} (h : reprW (.lst xs) = some s) : Wp (reprM f (.p (.lst xs))) QU E S = QU (.p (.str s)) S := by
  unfold reprM
  simp only [h]
  rfl
theorem w_reprO {C key : String} {fs : List (Str × W)} {s : Str} (hk : C ++ ".__repr__" = key) (h : f key [.p (.obj C fs)] = okP (.str s)) : Wp (reprM f (.p (.obj C fs))) QU E S = QU (.p (.str s)) S := by
  subst hk
  unfold reprM ownS
  simp only [wp_bind, h]
  rfl
theorem w_strO {C key : String} {fs : List (Str × W)} {s : Str} (hk : C ++ ".__str__" = key) (h : f key [.p (.obj C fs)] = okP (.str s)) : Wp (strM f (.p (.obj C fs))) QU E S = QU (.p (.str s)) S := by
  subst hk
  unfold strM ownS
  simp only [wp_bind, h]
  rfl
end
section
variable {Q : Unit → Sto → Prop} {E : WE} {S : Sto}
theorem rcv_join {s : Str} : Wp (recvOk .join (.p (.str s))) Q E S = Q () S := rfl
theorem rcv_split {s : Str} : Wp (recvOk .split (.p (.str s))) Q E S = Q () S := rfl
theorem rcv_find {s : Str} : Wp (recvOk .find (.p (.str s))) Q E S = Q () S := rfl
theorem rcv_index {s : List W} : Wp (recvOk .index (.p (.lst s))) Q E S = Q () S := rfl
theorem rcv_indexL {n : Nat} : Wp (recvOk .index (.loc n)) Q E S = match S[n]? with
    | some (some (.lst _)) => Q () S
    | _ => False := by
  simp only [Wp, recvOk]
  cases S[n]? with
  | none => rfl
  | some o =>
    cases o with
    | none => rfl
    | some o => cases o <;> rfl
theorem rcv_count {s : List W} : Wp (recvOk .count (.p (.lst s))) Q E S = Q () S := rfl
theorem rcv_append {n : Nat} : Wp (recvOk .append (.loc n)) Q E S = match S[n]? with
    | some (some (.lst _)) => Q () S
    | _ => False := by
  simp only [Wp, recvOk]
  cases S[n]? with
  | none => rfl
  | some o =>
    cases o with
    | none => rfl
    | some o => cases o <;> rfl
theorem rcv_extend {n : Nat} : Wp (recvOk .extend (.loc n)) Q E S = match S[n]? with
    | some (some (.lst _)) => Q () S
    | _ => False := by
  simp only [Wp, recvOk]
  cases S[n]? with
  | none => rfl
  | some o =>
    cases o with
    | none => rfl
    | some o => cases o <;> rfl
end
theorem empty_app (d : Str) : Str.empty ++ d = d := W.KT.empty_app d
end Pm
end
section
set_option Elab.async false
set_option linter.all false
set_option maxHeartbeats 1000000
/-! Ws4: small laws that the laws' texts share. -/
namespace Pm
open PySem
theorem asc_len {hi : Int} : ∀ {is : List Int} {lo : Int}, Asc lo hi is → (is.length : Int) ≤ max 0 (hi - lo + 1)
  | [], _, _ => by simp; omega
  | i :: is, lo, ⟨h1, h2, h3⟩ => by
    have := asc_len h3
    simp only [List.length_cons]
    omega
theorem all_true {l : List W} (h : ∀ w ∈ l, w = .bl true) : ∃ bs, boolsW l = some bs ∧ bs.all id = true := by
  induction l with
  | nil => exact ⟨[], rfl, rfl⟩
  | cons w l ih =>
    obtain ⟨bs, e, f⟩ := ih fun x hx => h x (by simp [hx])
    rw [h w (by simp)]
    exact ⟨true :: bs, by simp [boolsW, e], by simp [f]⟩
def allP (p : W → Prop) : List W → Prop
  | [] => True
  | v :: vs => p v ∧ allP p vs
theorem allP_mem {p : W → Prop} : ∀ {l : List W}, allP p l → ∀ v ∈ l, p v
  | [], _, v, h => by simp at h
  | x :: l, ⟨a, b⟩, v, h => by
    rcases List.mem_cons.mp h with rfl | h
    · exact a
    · exact allP_mem b v h
theorem fs_size {n : Int} {a b c : W} : List.lookup (Str.ofString "size") [(Str.ofString "size", W.int n), (Str.ofString "locks", a), (Str.ofString "walls", b), (Str.ofString "prices", c)] = some (.int n) := rfl
theorem fs_locks {n : Int} {a b c : W} : List.lookup (Str.ofString "locks") [(Str.ofString "size", W.int n), (Str.ofString "locks", a), (Str.ofString "walls", b), (Str.ofString "prices", c)] = some a := rfl
theorem fs_walls {n : Int} {a b c : W} : List.lookup (Str.ofString "walls") [(Str.ofString "size", W.int n), (Str.ofString "locks", a), (Str.ofString "walls", b), (Str.ofString "prices", c)] = some b := rfl
theorem powW_d : powW (.int 10) (.int 30) = some (.int 1000000000000000000000000000000) := by
  simp only [powW]
  rw [if_pos (by decide)]
  rfl
theorem fs_prices {n : Int} {a b c : W} : List.lookup (Str.ofString "prices") [(Str.ofString "size", W.int n), (Str.ofString "locks", a), (Str.ofString "walls", b), (Str.ofString "prices", c)] = some c := rfl
theorem i40 : ixAt 4 0 = some 0 := rfl
theorem i41 : ixAt 4 1 = some 1 := rfl
theorem i42 : ixAt 4 2 = some 2 := rfl
theorem i43 : ixAt 4 3 = some 3 := rfl
theorem asc_big {hi : Int} {is : List Int} (h : Asc 0 hi is) (hh : hi ≤ 500000) : is.length ≤ bigLine := by
  have := asc_len h
  simp only [bigLine]
  omega
theorem rptL_one {n : Nat} {i : Int} : rptL n [W.int i] = iW (List.replicate n i) := by
  simp only [rptL, iW, List.map_replicate]
  induction n with
  | zero => rfl
  | succ n ih => rw [List.replicate_succ, List.replicate_succ, List.flatten_cons, ih]; rfl
theorem enumI_get {ws : List W} {i : Nat} {w : W} (h : (enumW ws)[i]? = some w) : ∃ x, ws[i]? = some x ∧ w = .tup [.int (i : Int), x] := by
  unfold enumW at h
  rw [List.getElem?_map, List.getElem?_zipIdx] at h
  cases e : ws[i]? with
  | none => rw [e] at h; simp at h
  | some x => rw [e] at h; simp at h; exact ⟨x, rfl, h.symm⟩
theorem ints_get {is : List Int} {i : Nat} {w : W} (h : (iW is)[i]? = some w) : ∃ x, is[i]? = some x ∧ w = .int x := by
  rw [List.getElem?_map, Option.map_eq_some_iff] at h
  obtain ⟨a, e, rfl⟩ := h
  exact ⟨a, e, rfl⟩
theorem eqWs_ints : ∀ {is : List Int}, eqWs (iW is) (iW is) = true
  | [] => rfl
  | i :: is => by
    have := eqWs_ints (is := is)
    simp only [iW, List.map_cons, eqWs, eqW, beq_self_eq_true, Bool.true_and] at this ⊢
    exact this
/-- a tuple of whole numbers that is not empty is not () -/
theorem wp_eqN {f : String → List U → M U} {is : List Int} {S : Sto} {Q : Bool → Sto → Prop} {E : WE} (h : is ≠ []) : Wp (eqM f (.tup (iW is)) (.tup [])) Q E S = Q false S := by
  have ha : dataW (.tup (iW is)) = true := by simp only [dataW, dataN]; exact data_ints
  unfold Wp eqM
  rw [ha, data_nil]
  cases is with
  | nil => exact absurd rfl h
  | cons i is => simp only [Bool.and_self, if_true, iW, List.map_cons, eqW, eqWs]
end Pm
end
section
set_option Elab.async false
set_option linter.all false
set_option maxHeartbeats 1000000
/-! Ws5: while loops; numbers in texts; splitting; counting and finding words. -/
namespace Pm
open PySem
/-- a loop that turns at most n times -/
theorem wp_whlL {c : Lo → M Bool} {f : Lo → M Fl} {n : Nat} {I : Nat → Lo → Sto → Prop} {Q : Fl → Sto → Prop} {E : WE} : ∀ {wh : Nat} {i : Nat} {τ : Lo} {S : Sto}, n < i + wh → I i τ S →
    (∀ i τ S, I i τ S → Wp (c τ) (fun b S1 => if b = true then i < n ∧ Wp (f τ) (fun fl S2 => match fl with
      | .nx τ2 => I (i + 1) τ2 S2
      | .ct τ2 => I (i + 1) τ2 S2
      | .bk τ2 => Q (.nx τ2) S2
      | fl => Q fl S2) E S1 else Q (.nx τ) S1) E S) → i ≤ n → Wp (whlL c f wh τ) Q E S
  | 0, i, τ, S, h, hI, _, hin => by omega
  | wh + 1, i, τ, S, h, hI, hs, hin => by
    simp only [whlL, wp_bind]
    refine (hs i τ S hI).mono (fun b S1 q => ?_) fun _ _ _ e => e
    cases b with
    | false => exact q
    | true =>
      simp only [if_true] at q ⊢
      obtain ⟨q0, q⟩ := q
      rw [wp_bind]
      refine q.mono (fun fl S2 q2 => ?_) fun _ _ _ e => e
      cases fl with
      | nx τ2 => exact wp_whlL (by omega) q2 hs q0
      | ct τ2 => exact wp_whlL (by omega) q2 hs q0
      | bk τ2 => exact q2
      | rt u => exact q2
      | ex _ _ _ => exact q2
/-- the same, with what comes behind named -/
def kWb (I : Nat → Lo → Sto → Prop) (i : Nat) (Q : Fl → Sto → Prop) : Fl → Sto → Prop := fun fl S2 => match fl with
  | .nx τ2 => I (i + 1) τ2 S2
  | .ct τ2 => I (i + 1) τ2 S2
  | .bk τ2 => Q (.nx τ2) S2
  | fl => Q fl S2
def kWc (n i : Nat) (f : Lo → M Fl) (τ : Lo) (I : Nat → Lo → Sto → Prop) (Q : Fl → Sto → Prop) (E : WE) : Bool → Sto → Prop := fun b S1 => if b = true then i < n ∧ Wp (f τ) (kWb I i Q) E S1 else Q (.nx τ) S1
theorem kWc_t {n i : Nat} {f : Lo → M Fl} {τ : Lo} {I : Nat → Lo → Sto → Prop} {Q : Fl → Sto → Prop} {E : WE} {S : Sto} : kWc n i f τ I Q E true S = (i < n ∧ Wp (f τ) (kWb I i Q) E S) := by simp only [kWc, if_true]
theorem kWc_f {n i : Nat} {f : Lo → M Fl} {τ : Lo} {I : Nat → Lo → Sto → Prop} {Q : Fl → Sto → Prop} {E : WE} {S : Sto} : kWc n i f τ I Q E false S = Q (.nx τ) S := by simp only [kWc, Bool.false_eq_true, if_false]
theorem kWb_nx {i : Nat} {τ : Lo} {I : Nat → Lo → Sto → Prop} {Q : Fl → Sto → Prop} {S : Sto} : kWb I i Q (.nx τ) S = I (i + 1) τ S := rfl
theorem wp_whlK {c : Lo → M Bool} {f : Lo → M Fl} {n : Nat} {I : Nat → Lo → Sto → Prop} {Q : Fl → Sto → Prop} {E : WE} {wh i : Nat} {τ : Lo} {S : Sto} (h : n < i + wh) (hI : I i τ S) (hs : ∀ i τ S, I i τ S → Wp (c τ) (kWc n i f τ I Q E) E S) (hin : i ≤ n) : Wp (whlL c f wh τ) Q E S :=
  wp_whlL h hI (fun i τ S q => (hs i τ S q).mono (fun b S1 z => z) fun _ _ _ e => e) hin
/-- a law's answer, from what is wanted of it in any store -/
theorem ok_of_key {m : M U} (h : ∀ S, Wp m (fun u _ => u = .p (.bl true)) noE S) (S : Sto) : ∃ S', m S = .ok (.p (.bl true)) S' := by
  have key := h S
  unfold Wp at key
  cases e : m S with
  | ok a S' =>
    rw [e] at key
    have : a = .p (.bl true) := key
    subst this
    exact ⟨S', rfl⟩
  | err _ _ _ => rw [e] at key; exact key.elim
  | bad => rw [e] at key; exact key.elim
theorem shWs_map {α : Type} {g : α → W} : ∀ {l : List α}, (∀ x ∈ l, shW (g x)) → shWs (l.map g)
  | [], _ => by simp [shWs]
  | x :: l, h => by
    simp only [List.map_cons, shWs]
    exact ⟨h x (by simp), shWs_map fun y hy => h y (by simp [hy])⟩
theorem cost_map {α : Type} {g : α → W} {c : Nat} : ∀ {l : List α}, (∀ x ∈ l, costW (g x) ≤ c) → costWs (l.map g) ≤ (c + 2) * l.length
  | [], _ => by simp [costWs]
  | x :: l, h => by
    have a := h x (by simp)
    have b := cost_map (l := l) (g := g) (c := c) fun y hy => h y (by simp [hy])
    simp only [List.map_cons, costWs, List.length_cons, Nat.mul_add]
    omega
theorem intsW_i : ∀ {is : List Int}, intsW (iW is) = some is
  | [] => rfl
  | i :: is => by
    have := intsW_i (is := is)
    simp only [iW, List.map_cons, intsW] at this ⊢
    rw [this]; rfl
theorem wp_eq0 {f : String → List U → M U} {xs : List W} {S : Sto} {Q : Bool → Sto → Prop} {E : WE} (h : dataW (.tup xs) = true) : Wp (eqM f (.tup xs) (.tup [])) Q E S = Q xs.isEmpty S := by
  unfold Wp eqM
  rw [h, data_nil]
  cases xs <;> simp only [Bool.and_self, if_true, eqW, eqWs] <;> rfl
theorem wp_compP {f : W → M (Option W)} {p : W → Bool} {ws : List W} {Q : List W → Sto → Prop} {E : WE} {S : Sto} (h : ∀ w ∈ ws, Wp (f w) (fun a S' => a = (if p w = true then some w else none) ∧ S' = S) noE S) : Wp (compL f ws) Q E S = Q (ws.filter p) S := by
  unfold Wp
  rw [compL_filt (p := p) (g := id) fun w hw => ok_of_wp (h w hw), List.map_id]
/-! ### numbers in texts -/
theorem sI_tl {i : Int} (h : 0 ≤ i) : (sI i).cps.toList = TL.numL i.toNat := by
  obtain ⟨n, rfl⟩ := Int.eq_ofNat_of_zero_le h
  exact TL.tl_num n
theorem len_tl (s : Str) : s.cps.toList.length = s.length := Array.length_toList
theorem num_head : ∀ (m : Nat), 0 < m → ∃ c r, TL.numL m = c :: r ∧ c ≠ 48 := by
  intro m
  induction m using Nat.strongRecOn with
  | _ m ih =>
    intro h0
    by_cases h : m < 10
    · exact ⟨48 + m, [], TL.numL_lt h, by omega⟩
    · obtain ⟨c, r, e, hc⟩ := ih (m / 10) (by omega) (by omega)
      exact ⟨c, r ++ [48 + m % 10], by rw [TL.numL_step (by omega), e]; rfl, hc⟩
def digS : Str := Str.ofString "0123456789"
theorem digS_mem {c : Nat} (h : 48 ≤ c ∧ c ≤ 57) : c ∈ digS.cps.toList := by
  have e : digS.cps.toList = [48, 49, 50, 51, 52, 53, 54, 55, 56, 57] := by decide +kernel
  rw [e]
  simp only [List.mem_cons, List.not_mem_nil, or_false]
  omega
theorem sI_dig {i : Int} (h : 0 ≤ i) {c : Nat} (hc : c ∈ (sI i).cps.toList) : 48 ≤ c ∧ c ≤ 57 := by
  rw [sI_tl h] at hc
  exact TL.numL_digits _ c hc
theorem sI_ne {i : Int} (h : 0 ≤ i) : (sI i).cps.toList ≠ [] := by
  rw [sI_tl h]
  exact TL.numL_ne _
theorem sI_len0 {i : Int} (h : 0 ≤ i) : 1 ≤ (sI i).length := by
  have := sI_ne h
  rw [← len_tl]
  cases e : (sI i).cps.toList with
  | nil => exact absurd e this
  | cons a b => simp
theorem sI_int {i : Int} (h : 0 ≤ i) (hs : shI i) : intText? (sI i) = some i := by
  have hl := shI_len hs
  have e := sI_tl h
  obtain ⟨n, rfl⟩ := Int.eq_ofNat_of_zero_le h
  refine TL.int_num ?_
  rw [← len_tl, e] at hl
  simp only [Int.ofNat_eq_natCast, Int.toNat_natCast] at hl
  omega
theorem str_eq {a b : Str} (h : a.cps.toList = b.cps.toList) : a = b := by
  cases a; cases b
  congr 1
  exact Array.toList_inj.mp h
theorem sI_zero : sI 0 = Str.ofString "0" := by decide +kernel
/-- no leading zero -/
theorem sI_head {i : Int} (h : 0 ≤ i) (hne : sI i ≠ Str.ofString "0") : ∃ c r, (sI i).cps.toList = c :: r ∧ c ≠ 48 := by
  have hp : 0 < i.toNat := by
    by_cases e : i = 0
    · subst e; exact absurd sI_zero hne
    · omega
  rw [sI_tl h]
  exact num_head _ hp
theorem whole_cut {s : Str} : cutL s.cps.toList (some 0) (some (s.length : Int)) = s.cps.toList := by
  unfold cutL
  rw [show (some (0 : Int)) = some ((0 : Nat) : Int) from rfl, HT.sIx_nat, HT.sIx_nat, len_tl]
  simp only [Nat.zero_min, List.drop_zero, Nat.sub_zero, Nat.min_self, List.take_of_length_le (Nat.le_of_eq (len_tl s))]
theorem mk_tl (s : Str) : (⟨s.cps.toList.toArray⟩ : Str) = s := by cases s; simp
theorem inW_chr {c : Nat} {b : Str} : inW (.str ⟨#[c]⟩) (.str b) = some (decide (c ∈ b.cps.toList)) := by
  show (if Str.length ⟨#[c]⟩ = 1 then some (decide ((⟨#[c]⟩ : Str).cps.toList.headD 0 ∈ b.cps.toList)) else none) = _
  rw [if_pos (show Str.length ⟨#[c]⟩ = 1 from rfl)]
  rfl
theorem chr_data {c : Nat} (h : c < 1114112) : dataW (.str ⟨#[c]⟩) = true := by
  simp [dataW, dataN, h]
theorem sI_data {i : Int} : dataW (.str (sI i)) = true := asc_data (W.KSb.asc_num i)
/-! ### words -/
theorem split_line {ss : List Str} (hne : ss ≠ []) (h : ∀ s ∈ ss, 32 ∉ s.cps.toList) : Txt.split (Txt.join (Str.ofString " ") ss) (Str.ofString " ") = ss :=
  TL.split_join (s := 32) (S := []) (by decide +kernel) (by decide +kernel) hne h
theorem sI_not {i : Int} (h : 0 ≤ i) {w : Str} {c : Nat} {r : List Nat} (e : w.cps.toList = c :: r) (hc : 57 < c) : sI i ≠ w := fun z => by
  have := sI_dig h (c := c) (by rw [z, e]; simp)
  omega
theorem count_sI {is : List Int} (h : ∀ i ∈ is, 0 ≤ i) {w : Str} {c : Nat} {r : List Nat} (e : w.cps.toList = c :: r) (hc : 57 < c) : (is.map sI).count w = 0 := by
  rw [List.count_eq_zero]
  intro hm
  obtain ⟨i, hi, z⟩ := List.mem_map.mp hm
  exact sI_not (h i hi) e hc z
theorem eqIx_skip {xs ys : List W} {w : W} {k : Nat} (h : ∀ x ∈ xs, eqW x w = false) (e : eqIx ys w = some k) : eqIx (xs ++ ys) w = some (xs.length + k) := by
  induction xs with
  | nil => simpa using e
  | cons x xs ih =>
    have ih := ih fun y hy => h y (by simp [hy])
    unfold eqIx at ih ⊢
    rw [List.cons_append, List.findIdx?_cons, h x (by simp), ih]
    simp only [Bool.false_eq_true, if_false, Option.map_some, List.length_cons]
    congr 1
    omega
theorem eqIx_hit {ys : List W} {w x : W} (h : eqW x w = true) : eqIx (x :: ys) w = some 0 := by
  unfold eqIx
  rw [List.findIdx?_cons, h]
  rfl
theorem strs_flat : ∀ ss : List Str, (ss.map W.str).all flatW = true
  | [] => rfl
  | _ :: ss => by simpa [flatW] using strs_flat ss
end Pm
end
section
set_option Elab.async false
set_option linter.all false
set_option maxHeartbeats 1000000
/-! SegM: the segments of a ring; no program's text in sight. -/
namespace Seg
open PySem Pm
section
variable (n : Int) (ls ws : List Int)
/-- a segment begins here -/
def St (y : Int) : Prop := y % n ∈ ls ∨ (y - 1) % n ∈ ws
instance (y : Int) : Decidable (St n ls ws y) := inferInstanceAs (Decidable (_ ∨ _))
/-- a segment from s ends here -/
def Stop (s y : Int) : Prop := y % n ∈ ws ∨ (y ≠ s ∧ y % n ∈ ls)
instance (s y : Int) : Decidable (Stop n ls ws s y) := inferInstanceAs (Decidable (_ ∨ _))
def IsEnd (s e : Int) : Prop := s ≤ e ∧ e ≤ s + n ∧ (∀ y, s ≤ y → y < e → ¬ Stop n ls ws s y) ∧ Stop n ls ws s e
def endF (s : Int) : Nat → Int → Int
  | 0, y => y
  | k + 1, y => if Stop n ls ws s y then y else endF s k (y + 1)
def endI (s : Int) : Int := endF n ls ws s n.toNat s
end
section
variable {n : Int} {ls ws : List Int}
theorem per (y t : Int) : (y + n * t) % n = y % n := Int.add_mul_emod_self_left y n t
theorem St.per {y : Int} (t : Int) : St n ls ws (y + n * t) ↔ St n ls ws y := by
  unfold St
  rw [Seg.per, show y + n * t - 1 = y - 1 + n * t by omega, Seg.per]
theorem end_ok {s : Int} (hn : 0 < n) (hs : St n ls ws s) : IsEnd n ls ws s (endI n ls ws s) := by
  have top : ∃ j, s ≤ j ∧ j ≤ s + n ∧ Stop n ls ws s j := by
    rcases hs with h | h
    · refine ⟨s + n, by omega, by omega, .inr ⟨by omega, ?_⟩⟩
      have := Seg.per (n := n) s 1
      rw [Int.mul_one] at this
      rw [this]; exact h
    · refine ⟨s + n - 1, by omega, by omega, .inl ?_⟩
      have := Seg.per (n := n) (s - 1) 1
      rw [Int.mul_one] at this
      rw [show s + n - 1 = s - 1 + n by omega, this]; exact h
  obtain ⟨j, j1, j2, j3⟩ := top
  have key : ∀ (k : Nat) (y : Int), s ≤ y → y ≤ j → s + n - y ≤ k → (∀ z, s ≤ z → z < y → ¬ Stop n ls ws s z) → IsEnd n ls ws s (endF n ls ws s k y) := by
    intro k
    induction k with
    | zero =>
      intro y h1 h2 h3 h4
      have : y = j := by omega
      subst this
      exact ⟨h1, j2, h4, j3⟩
    | succ k ih =>
      intro y h1 h2 h3 h4
      unfold endF
      by_cases hy : Stop n ls ws s y
      · rw [if_pos hy]
        exact ⟨h1, by omega, h4, hy⟩
      · rw [if_neg hy]
        have hne : y ≠ j := fun e => hy (e ▸ j3)
        refine ih (y + 1) (by omega) (by omega) (by omega) fun z z1 z2 => ?_
        by_cases e : z = y
        · rw [e]; exact hy
        · exact h4 z z1 (by omega)
  exact key n.toNat s (by omega) j1 (by omega) fun z z1 z2 => by omega
/-- what a segment covers -/
theorem cover {s e x : Int} (he : IsEnd n ls ws s e) (hx : s ≤ x) (hl : x % n ∉ ls) : x ≤ e ↔ ∀ y, s < y → y ≤ x → ¬ St n ls ws y := by
  obtain ⟨e1, e2, e3, e4⟩ := he
  constructor
  · intro h y y1 y2 hy
    rcases hy with hy | hy
    · by_cases e : y = x
      · rw [e] at hy; exact hl hy
      · exact e3 y (by omega) (by omega) (.inr ⟨by omega, hy⟩)
    · exact e3 (y - 1) (by omega) (by omega) (.inl hy)
  · intro h
    refine Int.not_lt.mp fun hlt => ?_
    rcases e4 with h4 | ⟨h4, h5⟩
    · refine h (e + 1) (by omega) (by omega) (.inr ?_)
      rw [show e + 1 - 1 = e by omega]; exact h4
    · exact h e (by omega) (by omega) (.inl h5)
/-- the last begin at or before a place -/
theorem last_st {at_ p : Int} (hn : 0 < n) (ha : 0 ≤ at_) (ha2 : at_ < n) (hp : St n ls ws p) (p0 : 0 ≤ p) (p1 : p < n) : ∃ y, y ≤ at_ ∧ at_ - n < y ∧ St n ls ws y ∧ ∀ z, y < z → z ≤ at_ → ¬ St n ls ws z := by
  obtain ⟨q, q1, q2, q3⟩ : ∃ q, q ≤ at_ ∧ at_ - n < q ∧ St n ls ws q := by
    by_cases h : p ≤ at_
    · exact ⟨p, h, by omega, hp⟩
    · refine ⟨p - n, by omega, by omega, ?_⟩
      have := (St.per (n := n) (ls := ls) (ws := ws) (y := p) (-1)).mpr hp
      rwa [show p + n * -1 = p - n by omega] at this
  have key : ∀ (k : Nat) (y : Int), y ≤ at_ → q ≤ y → y - q ≤ k → (∀ z, y < z → z ≤ at_ → ¬ St n ls ws z) → ∃ y, y ≤ at_ ∧ at_ - n < y ∧ St n ls ws y ∧ ∀ z, y < z → z ≤ at_ → ¬ St n ls ws z := by
    intro k
    induction k with
    | zero =>
      intro y h1 h2 h3 h4
      have : y = q := by omega
      subst this
      exact ⟨y, h1, q2, q3, h4⟩
    | succ k ih =>
      intro y h1 h2 h3 h4
      by_cases hy : St n ls ws y
      · exact ⟨y, h1, by omega, hy, h4⟩
      · have hne : y ≠ q := fun e => hy (e ▸ q3)
        refine ih (y - 1) (by omega) (by omega) (by omega) fun z z1 z2 => ?_
        by_cases e : z = y
        · rw [e]; exact hy
        · exact h4 z (by omega) z2
  exact key (at_ - q).toNat at_ (by omega) q1 (by omega) fun z z1 z2 => by omega
theorem one_len {p : Int → Bool} {a hi : Int} : ∀ {l : List Int} {lo : Int}, Asc lo hi l → (∀ x ∈ l, p x = true ↔ x = a) → a ∈ l → (l.filter p).length = 1
  | x :: l, lo, ⟨h1, h2, h3⟩, hp, ha => by
    have none : ∀ {m : List Int}, (∀ y ∈ m, p y = true ↔ y = a) → a ∉ m → m.filter p = [] := by
      intro m hm hn
      rw [List.filter_eq_nil_iff]
      intro y hy e
      rw [(hm y hy).mp e] at hy
      exact hn hy
    rcases List.mem_cons.mp ha with e | e
    · subst e
      rw [List.filter_cons_of_pos ((hp a (by simp)).mpr rfl), none (fun y hy => hp y (by simp [hy])) fun hm => by have := (h3.mem hm).1; omega]
      rfl
    · have hx : ¬ p x = true := fun z => by
        have := (hp x (by simp)).mp z
        have := (h3.mem e).1
        omega
      rw [List.filter_cons_of_neg hx]
      exact one_len h3 (fun y hy => hp y (by simp [hy])) e
theorem none_len {p : Int → Bool} {l : List Int} (hp : ∀ x ∈ l, ¬ p x = true) : (l.filter p).length = 0 := by
  rw [List.filter_eq_nil_iff.mpr hp]
  rfl
theorem sum_zero {f : Int → Int} : ∀ {l : List Int}, (∀ x ∈ l, f x = 0) → (l.map f).sum = 0
  | [], _ => rfl
  | x :: l, h => by
    rw [List.map_cons, List.sum_cons, h x (by simp), sum_zero fun y hy => h y (by simp [hy])]
    rfl
theorem sum_one {f : Int → Int} {a hi : Int} : ∀ {l : List Int} {lo : Int}, Asc lo hi l → a ∈ l → (f a = 1) → (∀ x ∈ l, x ≠ a → f x = 0) → (l.map f).sum = 1
  | x :: l, lo, ⟨h1, h2, h3⟩, ha, h4, h5 => by
    rw [List.map_cons, List.sum_cons]
    rcases List.mem_cons.mp ha with e | e
    · subst e
      rw [h4, sum_zero fun y hy => h5 y (by simp [hy]) fun e => by have := (h3.mem hy).1; omega]
      rfl
    · rw [h5 x (by simp) fun z => by have := (h3.mem e).1; omega, sum_one h3 e h4 fun y hy => h5 y (by simp [hy])]
      rfl
/-- the places of a range -/
def rI (lo hi : Int) : List Int := (List.range (hi - lo).toNat).map fun (i : Nat) => lo + (i : Int)
theorem rI_mem {lo hi x : Int} : x ∈ rI lo hi ↔ lo ≤ x ∧ x < hi := by
  unfold rI
  rw [List.mem_map]
  constructor
  · rintro ⟨i, hi, rfl⟩
    rw [List.mem_range] at hi
    omega
  · intro h
    exact ⟨(x - lo).toNat, by rw [List.mem_range]; omega, by omega⟩
theorem rI_asc {lo hi : Int} : Asc lo (lo + (hi - lo).toNat - 1) (rI lo hi) := rng_asc (hi - lo).toNat lo
/-- the begins -/
def sts (n : Int) (ls ws : List Int) : List Int := (rI 0 n).filter fun y => decide (St n ls ws y)
def times (n : Int) (ls ws : List Int) (at_ s : Int) : Int := (((rI s (endI n ls ws s + 1)).filter fun x => decide (x % n = at_)).length : Int)
/-- a register that is not locked lies in one segment -/
theorem once {at_ : Int} (hn : 0 < n) (ha : 0 ≤ at_) (ha2 : at_ < n) (hl : at_ ∉ ls) (hne : sts n ls ws ≠ []) : ((sts n ls ws).map (times n ls ws at_)).sum = 1 := by
  obtain ⟨p, hp⟩ := List.exists_mem_of_ne_nil _ hne
  have hp2 := List.mem_filter.mp hp
  have hp3 := rI_mem.mp hp2.1
  obtain ⟨y0, y1, y2, y3, y4⟩ := last_st hn ha ha2 (of_decide_eq_true hp2.2) hp3.1 hp3.2
  have hd : n * (y0 / n) + y0 % n = y0 := Int.mul_ediv_add_emod y0 n
  have hm0 := Int.emod_nonneg y0 (show n ≠ 0 by omega)
  have hm1 := Int.emod_lt_of_pos y0 hn
  have hs0 : St n ls ws (y0 % n) := by
    have := (St.per (n := n) (ls := ls) (ws := ws) (y := y0 % n) (y0 / n)).mp
    refine this ?_
    rw [show y0 % n + n * (y0 / n) = y0 by omega]
    exact y3
  have hat : ∀ {x : Int}, x % n = at_ → x % n ∉ ls := fun h => by rw [h]; exact hl
  -- who covers it, and where
  have who : ∀ {s x : Int}, St n ls ws s → 0 ≤ s → s < n → s ≤ x → x ≤ endI n ls ws s → x % n = at_ → s = y0 % n ∧ x = s + (at_ - y0) := by
    intro s x h1 h2 h3 h4 h5 h6
    have hc := (cover (end_ok hn h1) h4 (hat h6)).mp h5
    have hx : x % n + n * (x / n) = x := by have := Int.mul_ediv_add_emod x n; omega
    rw [h6] at hx
    generalize x / n = t at hx
    have e : s = y0 + n * t := by
      have st := (St.per (n := n) (ls := ls) (ws := ws) (y := y0) t).mpr y3
      by_cases c1 : s < y0 + n * t
      · exact absurd st (hc (y0 + n * t) c1 (by omega))
      · by_cases c2 : y0 + n * t < s
        · have := y4 (s - n * t) (by omega) (by omega)
          have back := (St.per (n := n) (ls := ls) (ws := ws) (y := s - n * t) t).mp (by rw [show s - n * t + n * t = s by omega]; exact h1)
          exact absurd back this
        · omega
    refine ⟨?_, by omega⟩
    have := Seg.per (n := n) y0 t
    rw [← e, Int.emod_eq_of_lt h2 h3] at this
    exact this
  have hx1 : y0 % n ≤ y0 % n + (at_ - y0) := by omega
  have hx2 : (y0 % n + (at_ - y0)) % n = at_ := by
    have := Seg.per (n := n) at_ (-(y0 / n))
    rw [Int.mul_neg] at this
    rw [show y0 % n + (at_ - y0) = at_ + -(n * (y0 / n)) by omega, this, Int.emod_eq_of_lt ha ha2]
  have hx3 : y0 % n + (at_ - y0) ≤ endI n ls ws (y0 % n) := by
    refine (cover (end_ok hn hs0) hx1 (hat hx2)).mpr fun y z1 z2 z3 => ?_
    have back := (St.per (n := n) (ls := ls) (ws := ws) (y := y) (y0 / n)).mpr z3
    exact y4 _ (by omega) (by omega) back
  have asc : Asc 0 (0 + (n - 0).toNat - 1) (sts n ls ws) := rI_asc.sub List.filter_sublist
  refine sum_one asc (a := y0 % n) (List.mem_filter.mpr ⟨rI_mem.mpr ⟨hm0, hm1⟩, decide_eq_true hs0⟩) ?_ ?_
  · unfold times
    rw [one_len (a := y0 % n + (at_ - y0)) rI_asc ?_ (rI_mem.mpr ⟨by omega, by omega⟩)]
    · rfl
    · intro x hx
      have hx' := rI_mem.mp hx
      simp only [decide_eq_true_eq]
      constructor
      · intro h
        exact (who hs0 hm0 hm1 hx'.1 (by omega) h).2
      · rintro rfl
        exact hx2
  · intro s hs hne
    have h1 := List.mem_filter.mp hs
    have h2 := rI_mem.mp h1.1
    unfold times
    rw [none_len]
    · rfl
    · intro x hx
      have hx' := rI_mem.mp hx
      simp only [decide_eq_true_eq]
      intro h
      exact hne (who (of_decide_eq_true h1.2) h2.1 h2.2 hx'.1 (by omega) h).1
/-- no begin, just if there is no lock and no wall -/
theorem sts_nil (hn : 0 < n) (hl : ∀ i ∈ ls, 0 ≤ i ∧ i < n) (hw : ∀ i ∈ ws, 0 ≤ i ∧ i < n) : sts n ls ws = [] ↔ ls = [] ∧ ws = [] := by
  constructor
  · intro h
    have no : ∀ y, 0 ≤ y → y < n → ¬ St n ls ws y := fun y h1 h2 h3 => by
      have : y ∈ sts n ls ws := List.mem_filter.mpr ⟨rI_mem.mpr ⟨h1, h2⟩, decide_eq_true h3⟩
      rw [h] at this
      simp at this
    constructor
    · cases ls with
      | nil => rfl
      | cons i r =>
        have hi := hl i (by simp)
        exact absurd (.inl (by rw [Int.emod_eq_of_lt hi.1 hi.2]; simp)) (no i hi.1 hi.2)
    · cases ws with
      | nil => rfl
      | cons i r =>
        have hi := hw i (by simp)
        refine absurd (.inr ?_) (no ((i + 1) % n) (Int.emod_nonneg _ (by omega)) (Int.emod_lt_of_pos _ hn))
        have : ((i + 1) % n - 1) % n = i := by
          rw [Int.sub_emod, Int.emod_emod, ← Int.sub_emod, show i + 1 - 1 = i by omega, Int.emod_eq_of_lt hi.1 hi.2]
        rw [this]
        simp
  · rintro ⟨rfl, rfl⟩
    unfold sts
    rw [List.filter_eq_nil_iff]
    intro y _
    simp [St]
end
end Seg
end
section
set_option Elab.async false
set_option linter.all false
set_option maxRecDepth 100000
set_option maxHeartbeats 0
namespace L_k05
open PySem PySem.Spec PyProof.Rows L2 Pm
abbrev pw : PySem.Program := PySem.Challenge.pw_copyring_k05_rings_compared
abbrev rw_ := PySem.Challenge.rw_copyring_k05_rings_compared
def top (i : Nat) : Stmt := pw.main.body.getD i (.Pass ⟨0, 0, 0, 0⟩)
def sub (i j : Nat) : Stmt := (match top i with
  | .ClassDef (body := b) .. => b
  | _ => []).getD j (.Pass ⟨0, 0, 0, 0⟩)
def b_is_integer : Fn := { np := 3, n := 3, keep := false, body := [.ret (.and (.pr (.isi ["int"]) [.var 0]) (.and (.not (.pr (.isi ["bool"]) [.var 0])) (.chain .le .le (.var 1) (.var 0) (.var 2))))] }
def b_is_ascending : Fn := { np := 3, n := 6, keep := false, body := [.ifs (.or (.not (.pr (.isi ["tuple"]) [.var 0])) (.not (.pr .all [.comp false [("item", 5)] (.nm 5) none [.var 0] [] (.call "is_integer" [.inl 0, .inl 1, .inl 2] [.var 5, .var 1, .var 2])]))) [.ret (.cst (.bl false))] [], .ret (.pr .all [.comp false [("one", 3), ("other", 4)] (.tp [.nm 3, .nm 4]) (some .zip) [.var 0, .pr (.sl true false) [.var 0, .cst (.int 1)]] [] (.pr .lt [.var 3, .var 4])])] }
def b_first_wrong : Fn := { np := 3, n := 6, keep := false, body := [.ifs (.not (.pr (.isi ["tuple"]) [.var 0])) [.ret (.cst (.non))] [], .asg (.nm 3) (.pr .sub [.var 1, .cst (.int 1)]), .for_ (.tp [.nm 4, .nm 5]) (some .enum) [.var 0] [.ifs (.not (.call "is_integer" [.inl 0, .inl 1, .inl 2] [.var 5, .pr .add [.var 3, .cst (.int 1)], .var 2])) [.ret (.var 4)] [], .asg (.nm 3) (.var 5)], .ret (.pr .len [.var 0])] }
def b_Ringu_initu : Fn := { np := 5, n := 5, keep := false, body := [.ifs (.not (.call "is_integer" [.inl 0, .inl 1, .inl 2] [.var 1, .glob "MIN_SIZE", .glob "MAX_SIZE"])) [.raise "InvalidSize" ["size"] [.var 1]] [], .ifs (.not (.call "is_ascending" [.inl 0, .inl 1, .inl 2] [.var 2, .cst (.int 0), .pr .sub [.var 1, .cst (.int 1)]])) [.raise "InvalidLocks" ["index"] [.call "first_wrong" [.inl 0, .inl 1, .inl 2] [.var 2, .cst (.int 0), .pr .sub [.var 1, .cst (.int 1)]]]] [], .ifs (.not (.call "is_ascending" [.inl 0, .inl 1, .inl 2] [.var 3, .cst (.int 0), .pr .sub [.var 1, .cst (.int 1)]])) [.raise "InvalidWalls" ["index"] [.call "first_wrong" [.inl 0, .inl 1, .inl 2] [.var 3, .cst (.int 0), .pr .sub [.var 1, .cst (.int 1)]]]] [], .setf (.var 0) "size" (.var 1), .setf (.var 0) "locks" (.var 2), .setf (.var 0) "walls" (.var 3), .setf (.var 0) "prices" (.call "checked_prices" [.inl 0, .inl 1] [.var 1, .var 4])] }
def b_Ringu_equ : Fn := { np := 2, n := 2, keep := false, body := [.ifs (.or (.not (.pr (.isi ["Ring"]) [.var 1])) (.or (.pr .ne [.fld (.var 0) "size", .fld (.var 1) "size"]) (.pr .ne [.fld (.var 0) "prices", .fld (.var 1) "prices"]))) [.ret (.cst (.bl false))] [], .ret (.and (.pr .eq [.fld (.var 0) "locks", .fld (.var 1) "locks"]) (.pr .eq [.fld (.var 0) "walls", .fld (.var 1) "walls"]))] }
def b_Ringu_stru : Fn := { np := 1, n := 4, keep := false, body := [.asg (.nm 1) (.pr .add [.pr (.lst false) [.cst (.str "ring"), .pr .str [.fld (.var 0) "size"], .cst (.str "locks")], .comp false [("place", 2)] (.nm 2) none [.fld (.var 0) "locks"] [] (.pr .str [.var 2])]), .asg (.nm 1) (.pr .add [.pr .add [.var 1, .pr (.lst false) [.cst (.str "walls")]], .comp false [("place", 2)] (.nm 2) none [.fld (.var 0) "walls"] [] (.pr .str [.var 2])]), .ret (.meth .join (.cst (.str " ")) [.pr .add [.pr .add [.var 1, .pr (.lst false) [.cst (.str "prices")]], .comp false [("price_here", 3)] (.nm 3) none [.fld (.var 0) "prices"] [] (.pr .str [.var 3])]])] }
def b_Ringu_repru : Fn := { np := 1, n := 1, keep := false, body := [.ret (.pr (.fstr [some "Ring(", none, some ")"]) [.fld (.var 0) "size"])] }
def b_checked_prices : Fn := { np := 2, n := 4, keep := false, body := [.ifs (.and (.pr (.isi ["tuple"]) [.var 1]) (.pr .eq [.var 1, .pr .tup []])) [.ret (.pr .mul [.pr .tup [.cst (.int 1)], .var 0])] [], .ifs (.or (.not (.pr (.isi ["tuple"]) [.var 1])) (.pr .ne [.pr .len [.var 1], .var 0])) [.raise "InvalidPrices" ["index"] [.cst (.non)]] [], .for_ (.tp [.nm 2, .nm 3]) (some .enum) [.var 1] [.ifs (.not (.call "is_integer" [.inl 0, .inl 1, .inl 2] [.var 3, .cst (.int 1), .glob "MAX_PRICE"])) [.raise "InvalidPrices" ["index"] [.var 2]] []], .ret (.var 1)] }
def b_read_number : Fn := { np := 2, n := 4, keep := false, body := [.asg (.nm 2) (.var 1), .whl (.and (.pr .lt [.var 2, .pr .len [.var 0]]) (.pr .in_ [.pr .ix [.var 0, .var 2], .glob "DIGITS"])) [.aug 2 .add (.cst (.int 1))], .asg (.nm 3) (.pr (.sl true true) [.var 0, .var 1, .var 2]), .ifs (.or (.not (.chain .le .le (.cst (.int 1)) (.pr .len [.var 3]) (.glob "MAX_DIGITS"))) (.and (.pr .ne [.var 3, .cst (.str "0")]) (.pr .eq [.pr .ix [.var 3, .cst (.int 0)], .cst (.str "0")]))) [.ret (.pr .tup [.cst (.non), .var 2])] [], .ret (.pr .tup [.pr .int [.var 3], .var 2])] }
def b_numbers_of : Fn := { np := 1, n := 5, keep := false, body := [.asg (.nm 1) (.pr (.lst true) []), .for_ (.nm 2) none [.var 0] [.asg (.tp [.nm 3, .nm 4]) (.call "read_number" [.inl 0, .inl 1] [.var 2, .cst (.int 0)]), .expr (.meth .append (.var 1) [.ite (.and (.pr .notn [.var 3]) (.pr .eq [.var 4, .pr .len [.var 2]])) (.var 3) (.pr .neg [.cst (.int 1)])])], .ret (.pr .tuple [.var 1])] }
def b_read_ring : Fn := { np := 1, n := 8, keep := false, body := [.asg (.nm 1) (.meth .split (.var 0) [.cst (.str " ")]), .ifs (.or (.pr .ne [.pr .ix [.var 1, .cst (.int 0)], .cst (.str "ring")]) (.pr .ne [.comp false [("word", 7)] (.nm 7) none [.pr .tup [.cst (.str "locks"), .cst (.str "walls"), .cst (.str "prices")]] [] (.meth .count (.var 1) [.var 7]), .pr (.lst false) [.cst (.int 1), .cst (.int 1), .cst (.int 1)]])) [.raise "InvalidText" ["text"] [.var 0]] [], .par [2, 3, 4] [.meth .index (.var 1) [.cst (.str "locks")], .meth .index (.var 1) [.cst (.str "walls")], .meth .index (.var 1) [.cst (.str "prices")]], .ifs (.not (.chain3 .eq .lt .lt (.cst (.int 2)) (.var 2) (.var 3) (.var 4))) [.raise "InvalidText" ["text"] [.var 0]] [], .par [5, 6] [.pr .ix [.call "numbers_of" [.inl 0] [.pr (.sl true true) [.var 1, .cst (.int 1), .cst (.int 2)]], .cst (.int 0)], .call "numbers_of" [.inl 0] [.pr (.sl true false) [.var 1, .pr .add [.var 4, .cst (.int 1)]]]], .ret (.new "Ring" [.inl 0, .inl 1, .inl 2, .inl 3] [.var 5, .call "numbers_of" [.inl 0] [.pr (.sl true true) [.var 1, .cst (.int 3), .var 3]], .call "numbers_of" [.inl 0] [.pr (.sl true true) [.var 1, .pr .add [.var 3, .cst (.int 1)], .var 4]], .var 6])] }
def b_parse_ring : Fn := { np := 1, n := 2, keep := false, body := [.ifs (.not (.pr (.isi ["str"]) [.var 0])) [.raise "InvalidText" ["text"] [.var 0]] [], .thru [.asg (.nm 1) (.call "read_ring" [.inl 0] [.var 0])], .ifs (.pr .ne [.pr .str [.var 1], .var 0]) [.raise "InvalidText" ["text"] [.var 0]] [], .ret (.var 1)] }
def b__law_cell : Fn := { np := 2, n := 4, keep := false, body := [.ifs (.pr .lt [.var 1, .pr .len [.var 0]]) [.ret (.pr .ix [.var 0, .var 1])] [], .asg (.nm 2) (.pr .mod [.pr .mul [.cst (.int 70019), .pr .add [.pr .add [.pr .mul [.var 1, .var 1], .pr .mul [.cst (.int 5), .var 1]], .cst (.int 3)]], .cst (.int 1000000007)]), .for_ (.nm 3) none [.pr (.sl false true) [.var 0, .cst (.int 3)]] [.asg (.nm 2) (.pr .mod [.pr .add [.pr .mul [.var 2, .cst (.int 50021)], .var 3], .cst (.int 1000000007)])], .ret (.var 2)] }
def b__law_pool : Fn := { np := 1, n := 2, keep := true, body := [.asg (.nm 1) (.ite (.or (.pr .lt [.var 0, .cst (.int 0)]) (.pr .ge [.var 0, .pr .pow [.cst (.int 10), .cst (.int 18)]])) (.pr .abs [.var 0]) (.cst (.int 0))), .ret (.pr (.lst true) [.var 1, .pr .add [.pr .mul [.pr .mod [.var 0, .cst (.int 1000000007)], .cst (.int 7001)], .cst (.int 3001)], .cst (.int 0)])] }
def b__law_take : Fn := { np := 2, n := 4, keep := false, body := [.setix (.var 0) (.cst (.int 2)) (.pr .add [.pr .ix [.var 0, .cst (.int 2)], .cst (.int 1)]), .ifs (.pr .gt [.pr .ix [.var 0, .cst (.int 0)], .cst (.int 0)]) [.setix2 (.var 0) (.cst (.int 0)) 3 (.pr .divmod [.pr .ix [.var 0, .cst (.int 0)], .var 1]), .ret (.var 3)] [], .asg (.nm 2) (.pr .mod [.pr .ix [.var 0, .cst (.int 1)], .cst (.int 1000000007)]), .setix (.var 0) (.cst (.int 1)) (.pr .add [.pr .mul [.var 2, .pr .add [.pr .mod [.var 2, .cst (.int 50021)], .cst (.int 30011)]], .pr .mul [.cst (.int 70001), .pr .ix [.var 0, .cst (.int 2)]]]), .ret (.pr .mod [.pr .fdiv [.pr .mod [.pr .ix [.var 0, .cst (.int 1)], .cst (.int 1000000007)], .cst (.int 16)], .var 1])] }
def b__law_some : Fn := { np := 2, n := 4, keep := false, body := [.asg (.nm 2) (.call "_law_take" [.inl 0, .inl 1] [.var 0, .cst (.int 5)]), .ifs (.pr .lt [.var 2, .cst (.int 2)]) [.ret (.pr .tup [])] [], .ifs (.pr .eq [.var 2, .cst (.int 2)]) [.ret (.pr .tup [.call "_law_take" [.inl 0, .inl 1] [.var 0, .var 1]])] [], .ret (.pr .tuple [.comp false [("_law_spot", 3)] (.nm 3) (some .range1) [.var 1] [.pr .eq [.call "_law_take" [.inl 0, .inl 1] [.var 0, .pr .ix [.pr (.lst false) [.cst (.int 4), .cst (.int 2)], .pr .sub [.var 2, .cst (.int 3)]]], .cst (.int 0)]] (.var 3)])] }
def b__law_facts : Fn := { np := 2, n := 7, keep := false, body := [.asg (.nm 2) (.pr .add [.cst (.int 2), .call "_law_take" [.inl 0, .inl 1] [.var 0, .pr .sub [.var 1, .cst (.int 1)]]]), .par [4, 5] [.call "_law_some" [.inl 0, .inl 1] [.var 0, .var 2], .call "_law_some" [.inl 0, .inl 1] [.var 0, .var 2]], .asg (.nm 3) (.pr .ix [.pr (.lst false) [.cst (.int 1), .cst (.int 9), .cst (.int 999)], .call "_law_take" [.inl 0, .inl 1] [.var 0, .cst (.int 3)]]), .ret (.pr .tup [.var 2, .var 4, .var 5, .pr .tuple [.comp false [("_law_spot", 6)] (.nm 6) (some .range1) [.var 2] [] (.pr .add [.cst (.int 1), .call "_law_take" [.inl 0, .inl 1] [.var 0, .var 3]])]])] }
def b__law_made : Fn := { np := 1, n := 1, keep := false, body := [.ret (.new "Ring" [.inl 0, .inl 1, .inl 2, .inl 3] [.pr .ix [.var 0, .cst (.int 0)], .pr .ix [.var 0, .cst (.int 1)], .pr .ix [.var 0, .cst (.int 2)], .pr .ix [.var 0, .cst (.int 3)]])] }
def b__law_alike : Fn := { np := 3, n := 5, keep := false, body := [.asg (.nm 3) (.pr (.lst false) [.pr .eq [.var 0, .var 1], .pr .eq [.var 1, .var 0], .not (.pr .ne [.var 0, .var 1]), .not (.pr .ne [.var 1, .var 0])]), .ret (.and (.pr .all [.comp false [("_law_word", 4)] (.nm 4) none [.var 3] [] (.pr (.isi ["bool"]) [.var 4])]) (.pr .eq [.var 3, .pr .mul [.pr (.lst false) [.var 2], .cst (.int 4)]]))] }
def b__law_others : Fn := { np := 2, n := 9, keep := false, body := [.asg (.tp [.nm 4, .nm 5, .nm 6, .nm 7]) (.var 1), .asg (.nm 2) (.call "_law_take" [.inl 0, .inl 1] [.var 0, .var 4]), .asg (.nm 3) (.pr (.lst true) [.pr .tup [.var 4, .pr .tuple [.comp false [("_law_one", 8)] (.nm 8) (some .range1) [.var 4] [.pr .ne [.pr .in_ [.var 8, .var 5], .pr .eq [.var 8, .var 2]]] (.var 8)], .var 6, .var 7]]), .expr (.meth .append (.var 3) [.pr .tup [.var 4, .var 5, .pr .tuple [.comp false [("_law_one", 8)] (.nm 8) (some .range1) [.var 4] [.pr .ne [.pr .in_ [.var 8, .var 6], .pr .eq [.var 8, .var 2]]] (.var 8)], .var 7]]), .expr (.meth .append (.var 3) [.pr .tup [.var 4, .var 5, .var 6, .pr .add [.pr .add [.pr (.sl false true) [.var 7, .var 2], .pr .tup [.pr .add [.pr .mod [.pr .ix [.var 7, .var 2], .cst (.int 999)], .cst (.int 1)]]], .pr (.sl true false) [.var 7, .pr .add [.var 2, .cst (.int 1)]]]]]), .ifs (.pr .lt [.var 4, .cst (.int 12)]) [.expr (.meth .append (.var 3) [.pr .tup [.pr .add [.var 4, .cst (.int 1)], .var 5, .var 6, .pr .add [.var 7, .pr .tup [.cst (.int 1)]]]])] [], .ret (.var 3)] }
def b__law_right : Fn := { np := 1, n := 6, keep := false, body := [.asg (.nm 1) (.call "_law_facts" [.inl 0, .inl 1] [.var 0, .cst (.int 12)]), .par [2, 3] [.call "_law_made" [.inl 0] [.var 1], .call "_law_made" [.inl 0] [.var 1]], .ifs (.pr .eq [.call "_law_take" [.inl 0, .inl 1] [.var 0, .cst (.int 2)], .cst (.int 0)]) [.asg (.nm 3) (.call "parse_ring" [.inl 0] [.pr .str [.var 2]])] [], .ifs (.or (.not (.call "_law_alike" [.inl 0, .inl 1, .inl 2] [.var 2, .var 3, .cst (.bl true)])) (.not (.call "_law_alike" [.inl 0, .inl 1, .inl 2] [.var 2, .var 2, .cst (.bl true)]))) [.ret (.cst (.bl false))] [], .ifs (.not (.pr .all [.comp false [("_law_other", 5)] (.nm 5) none [.call "_law_others" [.inl 0, .inl 1] [.var 0, .var 1]] [] (.call "_law_alike" [.inl 0, .inl 1, .inl 2] [.var 2, .call "_law_made" [.inl 0] [.var 5], .cst (.bl false)])])) [.ret (.cst (.bl false))] [], .ret (.pr .all [.comp false [("_law_odd", 4)] (.nm 4) none [.pr (.lst false) [.cst (.non), .cst (.int 0), .cst (.bl true), .pr .str [.var 2], .var 1, .pr .ix [.var 1, .cst (.int 0)], .pr (.lst false) [.var 2], .pr .tup [], .pr .dct0 []]] [] (.call "_law_alike" [.inl 0, .inl 1, .inl 2] [.var 2, .var 4, .cst (.bl false)])])] }
def b_law : Fn := { np := 1, n := 2, keep := false, body := [.ifs (.not (.call "_law_alike" [.inl 0, .inl 1, .inl 2] [.new "Ring" [.inl 0, .inr .tup0, .inr .tup0, .inr .tup0] [.cst (.int 3)], .new "Ring" [.inl 0, .inr .tup0, .inr .tup0, .inl 1] [.cst (.int 3), .pr .tup [.cst (.int 1), .cst (.int 1), .cst (.int 1)]], .cst (.bl true)])) [.ret (.cst (.bl false))] [], .ifs (.not (.call "_law_alike" [.inl 0, .inl 1, .inl 2] [.new "Ring" [.inl 0, .inr .tup0, .inr .tup0, .inr .tup0] [.cst (.int 3)], .new "Ring" [.inl 0, .inr .tup0, .inr .tup0, .inl 1] [.cst (.int 3), .pr .tup [.cst (.int 1), .cst (.int 1), .cst (.int 2)]], .cst (.bl false)])) [.ret (.cst (.bl false))] [], .ret (.pr .all [.comp false [("_law_k", 1)] (.nm 1) (some .range1) [.pr .max2 [.cst (.int 2), .pr .min2 [.pr .len [.var 0], .cst (.int 8)]]] [] (.call "_law_right" [.inl 0] [.call "_law_pool" [.inl 0] [.call "_law_cell" [.inl 0, .inl 1] [.var 0, .var 1]]])])] }
def p_is_integer : PD := ⟨"is_integer", none, "is_integer", "is_integer", defArgs (top 11), defBody (top 11), defScope (top 11), ["value", "low", "high"], ["value", "low", "high"], [], [], b_is_integer⟩
def p_is_ascending : PD := ⟨"is_ascending", none, "is_ascending", "is_ascending", defArgs (top 12), defBody (top 12), defScope (top 12), ["value", "low", "high", "one", "other", "item"], ["value", "low", "high"], [], [], b_is_ascending⟩
def p_first_wrong : PD := ⟨"first_wrong", none, "first_wrong", "first_wrong", defArgs (top 13), defBody (top 13), defScope (top 13), ["value", "low", "high", "last", "index", "item"], ["value", "low", "high"], [], [], b_first_wrong⟩
def p_Ringu_initu : PD := ⟨"Ring.__init__", some "Ring", "__init__", "Ring.__init__", defArgs (sub 16 0), defBody (sub 16 0), defScope (sub 16 0), ["self", "size", "locks", "walls", "prices"], ["self", "size", "locks", "walls", "prices"], [], [("locks", .tup0), ("walls", .tup0), ("prices", .tup0)], b_Ringu_initu⟩
def p_Ringu_equ : PD := ⟨"Ring.__eq__", some "Ring", "__eq__", "Ring.__eq__", defArgs (sub 16 1), defBody (sub 16 1), defScope (sub 16 1), ["self", "other"], ["self", "other"], [], [], b_Ringu_equ⟩
def p_Ringu_stru : PD := ⟨"Ring.__str__", some "Ring", "__str__", "Ring.__str__", defArgs (sub 16 2), defBody (sub 16 2), defScope (sub 16 2), ["self", "words", "place", "price_here"], ["self"], [], [], b_Ringu_stru⟩
def p_Ringu_repru : PD := ⟨"Ring.__repr__", some "Ring", "__repr__", "Ring.__repr__", defArgs (sub 16 3), defBody (sub 16 3), defScope (sub 16 3), ["self"], ["self"], [], [], b_Ringu_repru⟩
def p_checked_prices : PD := ⟨"checked_prices", none, "checked_prices", "checked_prices", defArgs (top 17), defBody (top 17), defScope (top 17), ["size", "prices", "index", "item"], ["size", "prices"], [], [], b_checked_prices⟩
def p_read_number : PD := ⟨"read_number", none, "read_number", "read_number", defArgs (top 21), defBody (top 21), defScope (top 21), ["text", "start", "end", "digits"], ["text", "start"], [], [], b_read_number⟩
def p_numbers_of : PD := ⟨"numbers_of", none, "numbers_of", "numbers_of", defArgs (top 22), defBody (top 22), defScope (top 22), ["words", "found", "word", "number", "end"], ["words"], [], [], b_numbers_of⟩
def p_read_ring : PD := ⟨"read_ring", none, "read_ring", "read_ring", defArgs (top 23), defBody (top 23), defScope (top 23), ["text", "words", "first", "second", "third", "size", "prices", "word"], ["text"], [], [], b_read_ring⟩
def p_parse_ring : PD := ⟨"parse_ring", none, "parse_ring", "parse_ring", defArgs (top 24), defBody (top 24), defScope (top 24), ["text", "ring"], ["text"], [], [], b_parse_ring⟩
def p__law_cell : PD := ⟨"_law_cell", none, "_law_cell", "_law_cell", defArgs (top 26), defBody (top 26), defScope (top 26), ["_law_script", "_law_k", "_law_seed", "_law_cell_here"], ["_law_script", "_law_k"], [], [], b__law_cell⟩
def p__law_pool : PD := ⟨"_law_pool", none, "_law_pool", "_law_pool", defArgs (top 27), defBody (top 27), defScope (top 27), ["_law_cell_here", "_law_digits"], ["_law_cell_here"], [], [], b__law_pool⟩
def p__law_take : PD := ⟨"_law_take", none, "_law_take", "_law_take", defArgs (top 28), defBody (top 28), defScope (top 28), ["_law_pool_here", "_law_many", "_law_seed", "_law_digit"], ["_law_pool_here", "_law_many"], [], [], b__law_take⟩
def p__law_some : PD := ⟨"_law_some", none, "_law_some", "_law_some", defArgs (top 29), defBody (top 29), defScope (top 29), ["_law_pool_here", "_law_count", "_law_way", "_law_spot"], ["_law_pool_here", "_law_count"], [], [], b__law_some⟩
def p__law_facts : PD := ⟨"_law_facts", none, "_law_facts", "_law_facts", defArgs (top 30), defBody (top 30), defScope (top 30), ["_law_pool_here", "_law_most", "_law_count", "_law_top", "_law_locked", "_law_shuted", "_law_spot"], ["_law_pool_here", "_law_most"], [], [], b__law_facts⟩
def p__law_made : PD := ⟨"_law_made", none, "_law_made", "_law_made", defArgs (top 31), defBody (top 31), defScope (top 31), ["_law_facts_here"], ["_law_facts_here"], [], [], b__law_made⟩
def p__law_alike : PD := ⟨"_law_alike", none, "_law_alike", "_law_alike", defArgs (top 32), defBody (top 32), defScope (top 32), ["_law_one", "_law_other", "_law_due", "_law_told", "_law_word"], ["_law_one", "_law_other", "_law_due"], [], [], b__law_alike⟩
def p__law_others : PD := ⟨"_law_others", none, "_law_others", "_law_others", defArgs (top 33), defBody (top 33), defScope (top 33), ["_law_pool_here", "_law_facts_here", "_law_at", "_law_found", "_law_count", "_law_locked", "_law_shuted", "_law_paid", "_law_one"], ["_law_pool_here", "_law_facts_here"], [], [], b__law_others⟩
def p__law_right : PD := ⟨"_law_right", none, "_law_right", "_law_right", defArgs (top 34), defBody (top 34), defScope (top 34), ["_law_pool_here", "_law_facts_here", "_law_made_here", "_law_again", "_law_odd", "_law_other"], ["_law_pool_here"], [], [], b__law_right⟩
def p_law : PD := ⟨"law", none, "law", "law", defArgs (top 35), defBody (top 35), defScope (top 35), ["_law_script", "_law_k"], ["_law_script"], [], [], b_law⟩
def pds_ : List (PD) := [p_is_integer, p_is_ascending, p_first_wrong, p_Ringu_initu, p_Ringu_equ, p_Ringu_stru, p_Ringu_repru, p_checked_prices, p_read_number, p_numbers_of, p_read_ring, p_parse_ring, p__law_cell, p__law_pool, p__law_take, p__law_some, p__law_facts, p__law_made, p__law_alike, p__law_others, p__law_right, p_law]

def shp_ : List (String × Nat × List Str × List (Sum Nat Dfl)) := [("is_integer", 3, [], [.inl 0, .inl 1, .inl 2]), ("is_ascending", 3, [], [.inl 0, .inl 1, .inl 2]), ("first_wrong", 3, [], [.inl 0, .inl 1, .inl 2]), ("checked_prices", 2, [], [.inl 0, .inl 1]), ("read_number", 2, [], [.inl 0, .inl 1]), ("numbers_of", 1, [], [.inl 0]), ("Ring", 1, ["locks", "walls", "prices"], [.inl 0, .inl 1, .inl 2, .inl 3]), ("read_ring", 1, [], [.inl 0]), ("_law_take", 2, [], [.inl 0, .inl 1]), ("_law_some", 2, [], [.inl 0, .inl 1]), ("_law_facts", 2, [], [.inl 0, .inl 1]), ("_law_made", 1, [], [.inl 0]), ("parse_ring", 1, [], [.inl 0]), ("_law_alike", 3, [], [.inl 0, .inl 1, .inl 2]), ("_law_others", 2, [], [.inl 0, .inl 1]), ("Ring", 1, [], [.inl 0, .inr .tup0, .inr .tup0, .inr .tup0]), ("Ring", 1, ["prices"], [.inl 0, .inr .tup0, .inr .tup0, .inl 1]), ("_law_right", 1, [], [.inl 0]), ("_law_pool", 1, [], [.inl 0]), ("_law_cell", 2, [], [.inl 0, .inl 1])]

def globs_ : List (String × W) := [("DIGITS", .str "0123456789"), ("MAX_DIGITS", .int 31), ("MAX_PRICE", .int 999), ("MAX_SIZE", .int 12), ("MIN_SIZE", .int 2)]
def g : PG0 := { pds := pds_, cls := ["Ring"], mkc := ["Ring"], free := ["isinstance", "bool", "int", "all", "tuple", "zip", "enumerate", "len", "str", "abs", "divmod", "range", "max", "min"], flds := ["size", "locks", "walls", "prices"], tys := ["bool", "int", "tuple", "Ring", "str"], globs := globs_, shp := shp_, wh := 100000 }

theorem c_is_integer : p_is_integer.okB g.D = true := by decide +kernel
theorem c_is_ascending : p_is_ascending.okB g.D = true := by decide +kernel
theorem c_first_wrong : p_first_wrong.okB g.D = true := by decide +kernel
theorem c_Ringu_initu : p_Ringu_initu.okB g.D = true := by decide +kernel
theorem c_Ringu_equ : p_Ringu_equ.okB g.D = true := by decide +kernel
theorem c_Ringu_stru : p_Ringu_stru.okB g.D = true := by decide +kernel
theorem c_Ringu_repru : p_Ringu_repru.okB g.D = true := by decide +kernel
theorem c_checked_prices : p_checked_prices.okB g.D = true := by decide +kernel
theorem c_read_number : p_read_number.okB g.D = true := by decide +kernel
theorem c_numbers_of : p_numbers_of.okB g.D = true := by decide +kernel
theorem c_read_ring : p_read_ring.okB g.D = true := by decide +kernel
theorem c_parse_ring : p_parse_ring.okB g.D = true := by decide +kernel
theorem c__law_cell : p__law_cell.okB g.D = true := by decide +kernel
theorem c__law_pool : p__law_pool.okB g.D = true := by decide +kernel
theorem c__law_take : p__law_take.okB g.D = true := by decide +kernel
theorem c__law_some : p__law_some.okB g.D = true := by decide +kernel
theorem c__law_facts : p__law_facts.okB g.D = true := by decide +kernel
theorem c__law_made : p__law_made.okB g.D = true := by decide +kernel
theorem c__law_alike : p__law_alike.okB g.D = true := by decide +kernel
theorem c__law_others : p__law_others.okB g.D = true := by decide +kernel
theorem c__law_right : p__law_right.okB g.D = true := by decide +kernel
theorem c_law : p_law.okB g.D = true := by decide +kernel
theorem fn_is_integer : g.P.fn "is_integer" = some b_is_integer := by rfl
theorem fn_is_ascending : g.P.fn "is_ascending" = some b_is_ascending := by rfl
theorem fn_first_wrong : g.P.fn "first_wrong" = some b_first_wrong := by rfl
theorem fn_Ringu_initu : g.P.fn "Ring.__init__" = some b_Ringu_initu := by rfl
theorem fn_Ringu_equ : g.P.fn "Ring.__eq__" = some b_Ringu_equ := by rfl
theorem fn_Ringu_stru : g.P.fn "Ring.__str__" = some b_Ringu_stru := by rfl
theorem fn_Ringu_repru : g.P.fn "Ring.__repr__" = some b_Ringu_repru := by rfl
theorem fn_checked_prices : g.P.fn "checked_prices" = some b_checked_prices := by rfl
theorem fn_read_number : g.P.fn "read_number" = some b_read_number := by rfl
theorem fn_numbers_of : g.P.fn "numbers_of" = some b_numbers_of := by rfl
theorem fn_read_ring : g.P.fn "read_ring" = some b_read_ring := by rfl
theorem fn_parse_ring : g.P.fn "parse_ring" = some b_parse_ring := by rfl
theorem fn__law_cell : g.P.fn "_law_cell" = some b__law_cell := by rfl
theorem fn__law_pool : g.P.fn "_law_pool" = some b__law_pool := by rfl
theorem fn__law_take : g.P.fn "_law_take" = some b__law_take := by rfl
theorem fn__law_some : g.P.fn "_law_some" = some b__law_some := by rfl
theorem fn__law_facts : g.P.fn "_law_facts" = some b__law_facts := by rfl
theorem fn__law_made : g.P.fn "_law_made" = some b__law_made := by rfl
theorem fn__law_alike : g.P.fn "_law_alike" = some b__law_alike := by rfl
theorem fn__law_others : g.P.fn "_law_others" = some b__law_others := by rfl
theorem fn__law_right : g.P.fn "_law_right" = some b__law_right := by rfl
theorem fn_law : g.P.fn "law" = some b_law := by rfl
theorem okAll : g.ok = true := by decide +kernel
theorem okT : g.okT = true := by decide +kernel
theorem okC : g.clsOk = true := by decide +kernel
def loose_ : List (Str) := ["DIGITS", "InputError", "InvalidLocks", "InvalidPrices", "InvalidSize", "InvalidText", "InvalidWalls", "MAX_DIGITS", "MAX_PRICE", "MAX_SIZE", "MIN_SIZE", "Ring", "_law_alike", "_law_cell", "_law_facts", "_law_made", "_law_others", "_law_pool", "_law_right", "_law_some", "_law_take", "_wall", "checked_prices", "first_wrong", "is_ascending", "is_integer", "numbers_of", "parse_ring", "read_number", "read_ring"]

abbrev R : PySem.W.OpenRow := PySem.W.OpenLaw.row rw_
abbrev hk : PySem.W.Hook := He.hookX 6 g.fa g.fn [] [] g.ex
def ob (s : PySem.W.SharedT) : He.AlX := He.obsX 6 g.fa g.fn [] [] g.ex (HandSHeadRun.getT s)
theorem ob_eq (s : PySem.W.SharedT) : ob s = hk.obs s.abs := He.obsX_eq (HandSHeadRun.getT_eq s)
theorem run (w : World) : HandSHeadRun.RunEq R (PySem.W.view R.prog [35]) hk ob 6000 loose_ w := by
  intro os
  kernel_rfl

end L_k05
end
section
set_option Elab.async false
set_option linter.all false
set_option maxHeartbeats 2000000
set_option maxRecDepth 100000
namespace L_k05
open PySem Pm
abbrev P := g.P
theorem wh1000 : 1000 ≤ P.wh := by decide +kernel
theorem is_integer_eq {k : Nat} {w : W} {lo hi : Int} (hw : plainK w = true) : callM P (k + 1) "is_integer" [.p w, .p (.int lo), .p (.int hi)] = okP (.bl (isIntB w lo hi)) := by
  refine eq_of_wp fun S => w_call fn_is_integer rfl ?_
  simp only [b_is_integer]
  cases w <;> simp only [plainK, Bool.false_eq_true] at hw
  all_goals try simp -implicitDefEqProofs only [↓w_bind, ↓w_inS, ↓w_inSb, ↓w_inSs, ↓w_cons, ↓wp_nil, ↓wE_var, ↓wE_cst, ↓wE_glob, ↓wE_pr, ↓w_kAnd, ↓w_kOr, ↓wE_and, ↓wE_or, ↓wE_not, ↓w_kNot, ↓w_kIte, ↓wE_ite, ↓wE_chain, ↓w_kCh1, ↓w_kCh2, ↓w_kCh3, ↓wE_chain3, ↓w_kDh1, ↓w_kDh2, ↓w_kDh3, ↓w_kDh4, ↓w_kDh5, ↓wT_chain3, ↓wE_comp, ↓w_kComp0, ↓w_kComp2f, ↓w_kComp2t, ↓wE_call, ↓wE_meth, ↓w_kMe1, ↓w_kMe2, ↓wE_mcall, ↓w_kMc0, ↓w_kMc1, ↓wE_new, ↓wE_fld, ↓wEs_nil, ↓wEs_cons, ↓w_kEs1, ↓w_kEs2, ↓wT_and, ↓wT_or, ↓wT_not, ↓w_kTA, ↓w_kTO, ↓w_kTN, ↓wT_var, ↓wT_cst, ↓wT_pr, ↓wT_chain, ↓wT_call, ↓wT_meth, ↓wT_mcall, ↓wT_fld, ↓wC_nil, ↓wC_cons, ↓w_kC, ↓w_kCf2, ↓w_kCf3, ↓wS_expr, ↓wS_asg, ↓wS_asT, ↓w_kAsT, ↓wS_par, ↓w_kPar, ↓wS_setix, ↓w_kSx1, ↓w_kSx2, ↓w_kSx3, ↓wS_setix2, ↓w_kSy1, ↓w_kSy2, ↓w_kSy3, ↓wS_setf, ↓w_kSf1, ↓w_kSf2, ↓wS_aug, ↓w_kAu, ↓wS_ret, ↓wS_retN, ↓wS_ifs, ↓w_kIf, ↓wS_for, ↓w_kFor, ↓wS_whl, ↓wS_brk, ↓wS_cnt, ↓wS_pass, ↓wS_raise, ↓wS_thru, ↓w_itN, ↓w_itP, ↓w_truU, ↓w_truL, ↓w_p1, ↓w_p1l, ↓w_p2, ↓w_p2l, ↓w_p2r, ↓w_eq, ↓w_ne, ↓w_eql, ↓w_nel, ↓w_tup, ↓w_lst, ↓w_lstT, ↓w_frUs0, ↓w_frUs1, ↓w_frUsL, wp_ok, wp_okP, wp_bad, wp_ite, wp_nxt, wp_rdp, wp_frp, wp_some, wp_finp, wp_newU, wp_rdl', wp_setix, wp_setf, wp_updL, wp_guard, kB_ap, kM_ap, kS_nx, kS_rt, kS_bk, kS_ct, kS_ex, kX_ap, kF_rt, kF_nx, kF_ex, oW_s, oW_n, oW_i, prE, bindA, Dfl.w, kCall, kMc2, kNew, truW, tagW, subT, addW, subW, modW, cmpW, ixW, lenW, seqW, isNon, boolsW, MO.frz, fldU, augM, augW, oB, oI, setsL, slW, wp_optI, itemsW, mulW_l', mulW_r', wp_eqI, bnd_nm, bnd_2, bnd_3, bnd_4, wipeL, ix20, ix21, ix30, ix31, ix32, List.any_cons, List.any_nil, String.reduceBEq, Bool.or_false, Bool.or_true, Bool.false_or, Bool.true_or, Bool.and_false, Bool.and_true, Bool.false_and, Bool.true_and, Bool.not_true, Bool.not_false, beq_self_eq_true, Int.reduceLT, Int.reduceLE, Int.reduceEq, Nat.reduceLT, Nat.reduceLeDiff, Nat.reduceEqDiff, decide_true, decide_false, decide_eq_true_eq, and_self, and_true, true_and, List.map_cons, List.map_nil, List.cons_append, List.nil_append, List.append_nil, List.replicate_succ, List.replicate_zero, List.length_cons, List.length_nil, List.getElem?_cons_zero, List.getElem?_cons_succ, List.set_cons_zero, List.set_cons_succ, Option.bind_some, Option.bind_none, Option.map_some, Option.map_none, Nat.reduceSub, Nat.reduceAdd, Nat.sub_self, Nat.add_zero, Nat.zero_add, ite_true, ite_false, if_true, if_false, Bool.false_eq_true, reduceCtorEq, List.take_length, rcv_join, rcv_split, rcv_find, rcv_index, rcv_indexL, rcv_count, rcv_append, rcv_extend, eqF_pp]
  all_goals try first | rfl | exact ⟨rfl, take_all rfl⟩
  rename_i i
  by_cases h1 : lo ≤ i <;> by_cases h2 : i ≤ hi <;> simp [h1, h2, isIntB]
theorem law_take_wp {k n : Nat} {m : Int} {S : Sto} (hp : PoolAt S n) (h0 : 0 < m) (h1 : m < 1073741824) : Wp (callM P (k + 1) "_law_take" [.loc n, .p (.int m)]) (fun u S' => ∃ r : Int, u = .p (.int r) ∧ 0 ≤ r ∧ r < m ∧ PoolTo S n S') noE S := by
  have hn := hp.len
  have hd := dl h1
  obtain ⟨a, b, c, e⟩ := hp
  refine w_call fn__law_take rfl ?_
  simp only [b__law_take]
  try simp -implicitDefEqProofs only [↓w_bind, ↓w_inS, ↓w_inSb, ↓w_inSs, ↓w_cons, ↓wp_nil, ↓wE_var, ↓wE_cst, ↓wE_glob, ↓wE_pr, ↓w_kAnd, ↓w_kOr, ↓wE_and, ↓wE_or, ↓wE_not, ↓w_kNot, ↓w_kIte, ↓wE_ite, ↓wE_chain, ↓w_kCh1, ↓w_kCh2, ↓w_kCh3, ↓wE_chain3, ↓w_kDh1, ↓w_kDh2, ↓w_kDh3, ↓w_kDh4, ↓w_kDh5, ↓wT_chain3, ↓wE_comp, ↓w_kComp0, ↓w_kComp2f, ↓w_kComp2t, ↓wE_call, ↓wE_meth, ↓w_kMe1, ↓w_kMe2, ↓wE_mcall, ↓w_kMc0, ↓w_kMc1, ↓wE_new, ↓wE_fld, ↓wEs_nil, ↓wEs_cons, ↓w_kEs1, ↓w_kEs2, ↓wT_and, ↓wT_or, ↓wT_not, ↓w_kTA, ↓w_kTO, ↓w_kTN, ↓wT_var, ↓wT_cst, ↓wT_pr, ↓wT_chain, ↓wT_call, ↓wT_meth, ↓wT_mcall, ↓wT_fld, ↓wC_nil, ↓wC_cons, ↓w_kC, ↓w_kCf2, ↓w_kCf3, ↓wS_expr, ↓wS_asg, ↓wS_asT, ↓w_kAsT, ↓wS_par, ↓w_kPar, ↓wS_setix, ↓w_kSx1, ↓w_kSx2, ↓w_kSx3, ↓wS_setix2, ↓w_kSy1, ↓w_kSy2, ↓w_kSy3, ↓wS_setf, ↓w_kSf1, ↓w_kSf2, ↓wS_aug, ↓w_kAu, ↓wS_ret, ↓wS_retN, ↓wS_ifs, ↓w_kIf, ↓wS_for, ↓w_kFor, ↓wS_whl, ↓wS_brk, ↓wS_cnt, ↓wS_pass, ↓wS_raise, ↓wS_thru, ↓w_itN, ↓w_itP, ↓w_truU, ↓w_truL, ↓w_p1, ↓w_p1l, ↓w_p2, ↓w_p2l, ↓w_p2r, ↓w_eq, ↓w_ne, ↓w_eql, ↓w_nel, ↓w_tup, ↓w_lst, ↓w_lstT, ↓w_frUs0, ↓w_frUs1, ↓w_frUsL, wp_ok, wp_okP, wp_bad, wp_ite, wp_nxt, wp_rdp, wp_frp, wp_some, wp_finp, wp_newU, wp_rdl', wp_setix, wp_setf, wp_updL, wp_guard, kB_ap, kM_ap, kS_nx, kS_rt, kS_bk, kS_ct, kS_ex, kX_ap, kF_rt, kF_nx, kF_ex, oW_s, oW_n, oW_i, prE, bindA, Dfl.w, kCall, kMc2, kNew, truW, tagW, subT, addW, subW, modW, cmpW, ixW, lenW, seqW, isNon, boolsW, MO.frz, fldU, augM, augW, oB, oI, setsL, slW, wp_optI, itemsW, mulW_l', mulW_r', wp_eqI, bnd_nm, bnd_2, bnd_3, bnd_4, wipeL, ix20, ix21, ix30, ix31, ix32, List.any_cons, List.any_nil, String.reduceBEq, Bool.or_false, Bool.or_true, Bool.false_or, Bool.true_or, Bool.and_false, Bool.and_true, Bool.false_and, Bool.true_and, Bool.not_true, Bool.not_false, beq_self_eq_true, Int.reduceLT, Int.reduceLE, Int.reduceEq, Nat.reduceLT, Nat.reduceLeDiff, Nat.reduceEqDiff, decide_true, decide_false, decide_eq_true_eq, and_self, and_true, true_and, List.map_cons, List.map_nil, List.cons_append, List.nil_append, List.append_nil, List.replicate_succ, List.replicate_zero, List.length_cons, List.length_nil, List.getElem?_cons_zero, List.getElem?_cons_succ, List.set_cons_zero, List.set_cons_succ, Option.bind_some, Option.bind_none, Option.map_some, Option.map_none, Nat.reduceSub, Nat.reduceAdd, Nat.sub_self, Nat.add_zero, Nat.zero_add, ite_true, ite_false, if_true, if_false, Bool.false_eq_true, reduceCtorEq, List.take_length, rcv_join, rcv_split, rcv_find, rcv_index, rcv_indexL, rcv_count, rcv_append, rcv_extend, eqF_pp, e, hn, h0, h1, hd, ix30, ix31, ix32, List.set_set, List.length_cons, List.length_nil, List.length_set, setg, mulW_l, bit_mod, bit70, fdiv16]
  by_cases ha : 0 < a
  · try simp -implicitDefEqProofs only [↓w_bind, ↓w_inS, ↓w_inSb, ↓w_inSs, ↓w_cons, ↓wp_nil, ↓wE_var, ↓wE_cst, ↓wE_glob, ↓wE_pr, ↓w_kAnd, ↓w_kOr, ↓wE_and, ↓wE_or, ↓wE_not, ↓w_kNot, ↓w_kIte, ↓wE_ite, ↓wE_chain, ↓w_kCh1, ↓w_kCh2, ↓w_kCh3, ↓wE_chain3, ↓w_kDh1, ↓w_kDh2, ↓w_kDh3, ↓w_kDh4, ↓w_kDh5, ↓wT_chain3, ↓wE_comp, ↓w_kComp0, ↓w_kComp2f, ↓w_kComp2t, ↓wE_call, ↓wE_meth, ↓w_kMe1, ↓w_kMe2, ↓wE_mcall, ↓w_kMc0, ↓w_kMc1, ↓wE_new, ↓wE_fld, ↓wEs_nil, ↓wEs_cons, ↓w_kEs1, ↓w_kEs2, ↓wT_and, ↓wT_or, ↓wT_not, ↓w_kTA, ↓w_kTO, ↓w_kTN, ↓wT_var, ↓wT_cst, ↓wT_pr, ↓wT_chain, ↓wT_call, ↓wT_meth, ↓wT_mcall, ↓wT_fld, ↓wC_nil, ↓wC_cons, ↓w_kC, ↓w_kCf2, ↓w_kCf3, ↓wS_expr, ↓wS_asg, ↓wS_asT, ↓w_kAsT, ↓wS_par, ↓w_kPar, ↓wS_setix, ↓w_kSx1, ↓w_kSx2, ↓w_kSx3, ↓wS_setix2, ↓w_kSy1, ↓w_kSy2, ↓w_kSy3, ↓wS_setf, ↓w_kSf1, ↓w_kSf2, ↓wS_aug, ↓w_kAu, ↓wS_ret, ↓wS_retN, ↓wS_ifs, ↓w_kIf, ↓wS_for, ↓w_kFor, ↓wS_whl, ↓wS_brk, ↓wS_cnt, ↓wS_pass, ↓wS_raise, ↓wS_thru, ↓w_itN, ↓w_itP, ↓w_truU, ↓w_truL, ↓w_p1, ↓w_p1l, ↓w_p2, ↓w_p2l, ↓w_p2r, ↓w_eq, ↓w_ne, ↓w_eql, ↓w_nel, ↓w_tup, ↓w_lst, ↓w_lstT, ↓w_frUs0, ↓w_frUs1, ↓w_frUsL, wp_ok, wp_okP, wp_bad, wp_ite, wp_nxt, wp_rdp, wp_frp, wp_some, wp_finp, wp_newU, wp_rdl', wp_setix, wp_setf, wp_updL, wp_guard, kB_ap, kM_ap, kS_nx, kS_rt, kS_bk, kS_ct, kS_ex, kX_ap, kF_rt, kF_nx, kF_ex, oW_s, oW_n, oW_i, prE, bindA, Dfl.w, kCall, kMc2, kNew, truW, tagW, subT, addW, subW, modW, cmpW, ixW, lenW, seqW, isNon, boolsW, MO.frz, fldU, augM, augW, oB, oI, setsL, slW, wp_optI, itemsW, mulW_l', mulW_r', wp_eqI, bnd_nm, bnd_2, bnd_3, bnd_4, wipeL, ix20, ix21, ix30, ix31, ix32, List.any_cons, List.any_nil, String.reduceBEq, Bool.or_false, Bool.or_true, Bool.false_or, Bool.true_or, Bool.and_false, Bool.and_true, Bool.false_and, Bool.true_and, Bool.not_true, Bool.not_false, beq_self_eq_true, Int.reduceLT, Int.reduceLE, Int.reduceEq, Nat.reduceLT, Nat.reduceLeDiff, Nat.reduceEqDiff, decide_true, decide_false, decide_eq_true_eq, and_self, and_true, true_and, List.map_cons, List.map_nil, List.cons_append, List.nil_append, List.append_nil, List.replicate_succ, List.replicate_zero, List.length_cons, List.length_nil, List.getElem?_cons_zero, List.getElem?_cons_succ, List.set_cons_zero, List.set_cons_succ, Option.bind_some, Option.bind_none, Option.map_some, Option.map_none, Nat.reduceSub, Nat.reduceAdd, Nat.sub_self, Nat.add_zero, Nat.zero_add, ite_true, ite_false, if_true, if_false, Bool.false_eq_true, reduceCtorEq, List.take_length, rcv_join, rcv_split, rcv_find, rcv_index, rcv_indexL, rcv_count, rcv_append, rcv_extend, eqF_pp, ha, e, hn, h0, h1, hd, List.set_set, List.length_set, setg, mulW_l, bit_mod, bit70, fdiv16]
    exact ⟨_, rfl, Int.emod_nonneg _ (by omega), Int.emod_lt_of_pos _ h0, _, _, _, take_set rfl⟩
  · try simp -implicitDefEqProofs only [↓w_bind, ↓w_inS, ↓w_inSb, ↓w_inSs, ↓w_cons, ↓wp_nil, ↓wE_var, ↓wE_cst, ↓wE_glob, ↓wE_pr, ↓w_kAnd, ↓w_kOr, ↓wE_and, ↓wE_or, ↓wE_not, ↓w_kNot, ↓w_kIte, ↓wE_ite, ↓wE_chain, ↓w_kCh1, ↓w_kCh2, ↓w_kCh3, ↓wE_chain3, ↓w_kDh1, ↓w_kDh2, ↓w_kDh3, ↓w_kDh4, ↓w_kDh5, ↓wT_chain3, ↓wE_comp, ↓w_kComp0, ↓w_kComp2f, ↓w_kComp2t, ↓wE_call, ↓wE_meth, ↓w_kMe1, ↓w_kMe2, ↓wE_mcall, ↓w_kMc0, ↓w_kMc1, ↓wE_new, ↓wE_fld, ↓wEs_nil, ↓wEs_cons, ↓w_kEs1, ↓w_kEs2, ↓wT_and, ↓wT_or, ↓wT_not, ↓w_kTA, ↓w_kTO, ↓w_kTN, ↓wT_var, ↓wT_cst, ↓wT_pr, ↓wT_chain, ↓wT_call, ↓wT_meth, ↓wT_mcall, ↓wT_fld, ↓wC_nil, ↓wC_cons, ↓w_kC, ↓w_kCf2, ↓w_kCf3, ↓wS_expr, ↓wS_asg, ↓wS_asT, ↓w_kAsT, ↓wS_par, ↓w_kPar, ↓wS_setix, ↓w_kSx1, ↓w_kSx2, ↓w_kSx3, ↓wS_setix2, ↓w_kSy1, ↓w_kSy2, ↓w_kSy3, ↓wS_setf, ↓w_kSf1, ↓w_kSf2, ↓wS_aug, ↓w_kAu, ↓wS_ret, ↓wS_retN, ↓wS_ifs, ↓w_kIf, ↓wS_for, ↓w_kFor, ↓wS_whl, ↓wS_brk, ↓wS_cnt, ↓wS_pass, ↓wS_raise, ↓wS_thru, ↓w_itN, ↓w_itP, ↓w_truU, ↓w_truL, ↓w_p1, ↓w_p1l, ↓w_p2, ↓w_p2l, ↓w_p2r, ↓w_eq, ↓w_ne, ↓w_eql, ↓w_nel, ↓w_tup, ↓w_lst, ↓w_lstT, ↓w_frUs0, ↓w_frUs1, ↓w_frUsL, wp_ok, wp_okP, wp_bad, wp_ite, wp_nxt, wp_rdp, wp_frp, wp_some, wp_finp, wp_newU, wp_rdl', wp_setix, wp_setf, wp_updL, wp_guard, kB_ap, kM_ap, kS_nx, kS_rt, kS_bk, kS_ct, kS_ex, kX_ap, kF_rt, kF_nx, kF_ex, oW_s, oW_n, oW_i, prE, bindA, Dfl.w, kCall, kMc2, kNew, truW, tagW, subT, addW, subW, modW, cmpW, ixW, lenW, seqW, isNon, boolsW, MO.frz, fldU, augM, augW, oB, oI, setsL, slW, wp_optI, itemsW, mulW_l', mulW_r', wp_eqI, bnd_nm, bnd_2, bnd_3, bnd_4, wipeL, ix20, ix21, ix30, ix31, ix32, List.any_cons, List.any_nil, String.reduceBEq, Bool.or_false, Bool.or_true, Bool.false_or, Bool.true_or, Bool.and_false, Bool.and_true, Bool.false_and, Bool.true_and, Bool.not_true, Bool.not_false, beq_self_eq_true, Int.reduceLT, Int.reduceLE, Int.reduceEq, Nat.reduceLT, Nat.reduceLeDiff, Nat.reduceEqDiff, decide_true, decide_false, decide_eq_true_eq, and_self, and_true, true_and, List.map_cons, List.map_nil, List.cons_append, List.nil_append, List.append_nil, List.replicate_succ, List.replicate_zero, List.length_cons, List.length_nil, List.getElem?_cons_zero, List.getElem?_cons_succ, List.set_cons_zero, List.set_cons_succ, Option.bind_some, Option.bind_none, Option.map_some, Option.map_none, Nat.reduceSub, Nat.reduceAdd, Nat.sub_self, Nat.add_zero, Nat.zero_add, ite_true, ite_false, if_true, if_false, Bool.false_eq_true, reduceCtorEq, List.take_length, rcv_join, rcv_split, rcv_find, rcv_index, rcv_indexL, rcv_count, rcv_append, rcv_extend, eqF_pp, ha, e, hn, h0, h1, hd, List.set_set, List.length_set, setg, mulW_l, bit_mod, bit70, fdiv16]
    exact ⟨_, rfl, Int.emod_nonneg _ (by omega), Int.emod_lt_of_pos _ h0, _, _, _, take_set rfl⟩
theorem law_cell_wp {k : Nat} {ns : List Int} {i : Int} {S : Sto} (h0 : 0 ≤ i) (h1 : i < 1000) : Wp (callM P (k + 1) "_law_cell" [.p (.lst (iW ns)), .p (.int i)]) (fun u S' => ∃ r : Int, u = .p (.int r) ∧ S' = S) noE S := by
  refine w_call fn__law_cell rfl ?_
  simp only [b__law_cell]
  have m1 : -18446744073709551616 < i := by omega
  have m2 : i < 18446744073709551616 := by omega
  try simp -implicitDefEqProofs only [↓w_bind, ↓w_inS, ↓w_inSb, ↓w_inSs, ↓w_cons, ↓wp_nil, ↓wE_var, ↓wE_cst, ↓wE_glob, ↓wE_pr, ↓w_kAnd, ↓w_kOr, ↓wE_and, ↓wE_or, ↓wE_not, ↓w_kNot, ↓w_kIte, ↓wE_ite, ↓wE_chain, ↓w_kCh1, ↓w_kCh2, ↓w_kCh3, ↓wE_chain3, ↓w_kDh1, ↓w_kDh2, ↓w_kDh3, ↓w_kDh4, ↓w_kDh5, ↓wT_chain3, ↓wE_comp, ↓w_kComp0, ↓w_kComp2f, ↓w_kComp2t, ↓wE_call, ↓wE_meth, ↓w_kMe1, ↓w_kMe2, ↓wE_mcall, ↓w_kMc0, ↓w_kMc1, ↓wE_new, ↓wE_fld, ↓wEs_nil, ↓wEs_cons, ↓w_kEs1, ↓w_kEs2, ↓wT_and, ↓wT_or, ↓wT_not, ↓w_kTA, ↓w_kTO, ↓w_kTN, ↓wT_var, ↓wT_cst, ↓wT_pr, ↓wT_chain, ↓wT_call, ↓wT_meth, ↓wT_mcall, ↓wT_fld, ↓wC_nil, ↓wC_cons, ↓w_kC, ↓w_kCf2, ↓w_kCf3, ↓wS_expr, ↓wS_asg, ↓wS_asT, ↓w_kAsT, ↓wS_par, ↓w_kPar, ↓wS_setix, ↓w_kSx1, ↓w_kSx2, ↓w_kSx3, ↓wS_setix2, ↓w_kSy1, ↓w_kSy2, ↓w_kSy3, ↓wS_setf, ↓w_kSf1, ↓w_kSf2, ↓wS_aug, ↓w_kAu, ↓wS_ret, ↓wS_retN, ↓wS_ifs, ↓w_kIf, ↓wS_for, ↓w_kFor, ↓wS_whl, ↓wS_brk, ↓wS_cnt, ↓wS_pass, ↓wS_raise, ↓wS_thru, ↓w_itN, ↓w_itP, ↓w_truU, ↓w_truL, ↓w_p1, ↓w_p1l, ↓w_p2, ↓w_p2l, ↓w_p2r, ↓w_eq, ↓w_ne, ↓w_eql, ↓w_nel, ↓w_tup, ↓w_lst, ↓w_lstT, ↓w_frUs0, ↓w_frUs1, ↓w_frUsL, wp_ok, wp_okP, wp_bad, wp_ite, wp_nxt, wp_rdp, wp_frp, wp_some, wp_finp, wp_newU, wp_rdl', wp_setix, wp_setf, wp_updL, wp_guard, kB_ap, kM_ap, kS_nx, kS_rt, kS_bk, kS_ct, kS_ex, kX_ap, kF_rt, kF_nx, kF_ex, oW_s, oW_n, oW_i, prE, bindA, Dfl.w, kCall, kMc2, kNew, truW, tagW, subT, addW, subW, modW, cmpW, ixW, lenW, seqW, isNon, boolsW, MO.frz, fldU, augM, augW, oB, oI, setsL, slW, wp_optI, itemsW, mulW_l', mulW_r', wp_eqI, bnd_nm, bnd_2, bnd_3, bnd_4, wipeL, ix20, ix21, ix30, ix31, ix32, List.any_cons, List.any_nil, String.reduceBEq, Bool.or_false, Bool.or_true, Bool.false_or, Bool.true_or, Bool.and_false, Bool.and_true, Bool.false_and, Bool.true_and, Bool.not_true, Bool.not_false, beq_self_eq_true, Int.reduceLT, Int.reduceLE, Int.reduceEq, Nat.reduceLT, Nat.reduceLeDiff, Nat.reduceEqDiff, decide_true, decide_false, decide_eq_true_eq, and_self, and_true, true_and, List.map_cons, List.map_nil, List.cons_append, List.nil_append, List.append_nil, List.replicate_succ, List.replicate_zero, List.length_cons, List.length_nil, List.getElem?_cons_zero, List.getElem?_cons_succ, List.set_cons_zero, List.set_cons_succ, Option.bind_some, Option.bind_none, Option.map_some, Option.map_none, Nat.reduceSub, Nat.reduceAdd, Nat.sub_self, Nat.add_zero, Nat.zero_add, ite_true, ite_false, if_true, if_false, Bool.false_eq_true, reduceCtorEq, List.take_length, rcv_join, rcv_split, rcv_find, rcv_index, rcv_indexL, rcv_count, rcv_append, rcv_extend, eqF_pp, List.length_map, wp_walkSp, itU, itemsW, wp_optI, slW, mulW_l', mulW_r', m1, m2, Int.reduceMul, cut_3, walkS, wp_ite]
  by_cases h : i < ns.length
  · have : ixAt ns.length i = some i.toNat := ixI_ok h0 h
    have hl : i.toNat < ns.length := by omega
    simp only [h, if_true, this, Option.bind_some, List.getElem?_map, List.getElem?_eq_getElem hl, Option.map_some, wp_okP, wp_finp]
    all_goals try first | rfl | exact ⟨_, rfl⟩ | exact ⟨rfl, take_all rfl⟩ | exact ⟨_, rfl, by simp⟩ | exact ⟨_, _, rfl⟩ | exact ⟨_, _, _, rfl⟩ | exact ⟨_, _, _, _, rfl⟩ | exact ⟨rfl, _, rfl⟩ | exact ⟨rfl, _, _, rfl⟩ | exact ⟨rfl, _, _, _, rfl⟩ | exact ⟨rfl, _, _, _, _, rfl⟩
  · rw [if_neg h]
    refine wp_forL (I := fun _ τ S' => S' = S ∧ ∃ r x, τ = [some (U.p (.lst (iW ns))), some (.p (.int i)), some (.p (.int r)), x]) ⟨rfl, _, _, rfl⟩ ?_ ?_
    · rintro j w τ S' hw ⟨rfl, r, x, rfl⟩
      have hm := List.mem_of_getElem? hw
      rw [← List.map_take] at hm
      obtain ⟨c, _, rfl⟩ := List.mem_map.mp hm
      refine ⟨_, rfl, ?_⟩
      try simp -implicitDefEqProofs only [↓w_bind, ↓w_inS, ↓w_inSb, ↓w_inSs, ↓w_cons, ↓wp_nil, ↓wE_var, ↓wE_cst, ↓wE_glob, ↓wE_pr, ↓w_kAnd, ↓w_kOr, ↓wE_and, ↓wE_or, ↓wE_not, ↓w_kNot, ↓w_kIte, ↓wE_ite, ↓wE_chain, ↓w_kCh1, ↓w_kCh2, ↓w_kCh3, ↓wE_chain3, ↓w_kDh1, ↓w_kDh2, ↓w_kDh3, ↓w_kDh4, ↓w_kDh5, ↓wT_chain3, ↓wE_comp, ↓w_kComp0, ↓w_kComp2f, ↓w_kComp2t, ↓wE_call, ↓wE_meth, ↓w_kMe1, ↓w_kMe2, ↓wE_mcall, ↓w_kMc0, ↓w_kMc1, ↓wE_new, ↓wE_fld, ↓wEs_nil, ↓wEs_cons, ↓w_kEs1, ↓w_kEs2, ↓wT_and, ↓wT_or, ↓wT_not, ↓w_kTA, ↓w_kTO, ↓w_kTN, ↓wT_var, ↓wT_cst, ↓wT_pr, ↓wT_chain, ↓wT_call, ↓wT_meth, ↓wT_mcall, ↓wT_fld, ↓wC_nil, ↓wC_cons, ↓w_kC, ↓w_kCf2, ↓w_kCf3, ↓wS_expr, ↓wS_asg, ↓wS_asT, ↓w_kAsT, ↓wS_par, ↓w_kPar, ↓wS_setix, ↓w_kSx1, ↓w_kSx2, ↓w_kSx3, ↓wS_setix2, ↓w_kSy1, ↓w_kSy2, ↓w_kSy3, ↓wS_setf, ↓w_kSf1, ↓w_kSf2, ↓wS_aug, ↓w_kAu, ↓wS_ret, ↓wS_retN, ↓wS_ifs, ↓w_kIf, ↓wS_for, ↓w_kFor, ↓wS_whl, ↓wS_brk, ↓wS_cnt, ↓wS_pass, ↓wS_raise, ↓wS_thru, ↓w_itN, ↓w_itP, ↓w_truU, ↓w_truL, ↓w_p1, ↓w_p1l, ↓w_p2, ↓w_p2l, ↓w_p2r, ↓w_eq, ↓w_ne, ↓w_eql, ↓w_nel, ↓w_tup, ↓w_lst, ↓w_lstT, ↓w_frUs0, ↓w_frUs1, ↓w_frUsL, wp_ok, wp_okP, wp_bad, wp_ite, wp_nxt, wp_rdp, wp_frp, wp_some, wp_finp, wp_newU, wp_rdl', wp_setix, wp_setf, wp_updL, wp_guard, kB_ap, kM_ap, kS_nx, kS_rt, kS_bk, kS_ct, kS_ex, kX_ap, kF_rt, kF_nx, kF_ex, oW_s, oW_n, oW_i, prE, bindA, Dfl.w, kCall, kMc2, kNew, truW, tagW, subT, addW, subW, modW, cmpW, ixW, lenW, seqW, isNon, boolsW, MO.frz, fldU, augM, augW, oB, oI, setsL, slW, wp_optI, itemsW, mulW_l', mulW_r', wp_eqI, bnd_nm, bnd_2, bnd_3, bnd_4, wipeL, ix20, ix21, ix30, ix31, ix32, List.any_cons, List.any_nil, String.reduceBEq, Bool.or_false, Bool.or_true, Bool.false_or, Bool.true_or, Bool.and_false, Bool.and_true, Bool.false_and, Bool.true_and, Bool.not_true, Bool.not_false, beq_self_eq_true, Int.reduceLT, Int.reduceLE, Int.reduceEq, Nat.reduceLT, Nat.reduceLeDiff, Nat.reduceEqDiff, decide_true, decide_false, decide_eq_true_eq, and_self, and_true, true_and, List.map_cons, List.map_nil, List.cons_append, List.nil_append, List.append_nil, List.replicate_succ, List.replicate_zero, List.length_cons, List.length_nil, List.getElem?_cons_zero, List.getElem?_cons_succ, List.set_cons_zero, List.set_cons_succ, Option.bind_some, Option.bind_none, Option.map_some, Option.map_none, Nat.reduceSub, Nat.reduceAdd, Nat.sub_self, Nat.add_zero, Nat.zero_add, ite_true, ite_false, if_true, if_false, Bool.false_eq_true, reduceCtorEq, List.take_length, rcv_join, rcv_split, rcv_find, rcv_index, rcv_indexL, rcv_count, rcv_append, rcv_extend, eqF_pp, mulW_r', Int.reduceNeg]
      exact ⟨_, _, rfl⟩
    · rintro τ S' ⟨rfl, r, x, rfl⟩
      try simp -implicitDefEqProofs only [↓w_bind, ↓w_inS, ↓w_inSb, ↓w_inSs, ↓w_cons, ↓wp_nil, ↓wE_var, ↓wE_cst, ↓wE_glob, ↓wE_pr, ↓w_kAnd, ↓w_kOr, ↓wE_and, ↓wE_or, ↓wE_not, ↓w_kNot, ↓w_kIte, ↓wE_ite, ↓wE_chain, ↓w_kCh1, ↓w_kCh2, ↓w_kCh3, ↓wE_chain3, ↓w_kDh1, ↓w_kDh2, ↓w_kDh3, ↓w_kDh4, ↓w_kDh5, ↓wT_chain3, ↓wE_comp, ↓w_kComp0, ↓w_kComp2f, ↓w_kComp2t, ↓wE_call, ↓wE_meth, ↓w_kMe1, ↓w_kMe2, ↓wE_mcall, ↓w_kMc0, ↓w_kMc1, ↓wE_new, ↓wE_fld, ↓wEs_nil, ↓wEs_cons, ↓w_kEs1, ↓w_kEs2, ↓wT_and, ↓wT_or, ↓wT_not, ↓w_kTA, ↓w_kTO, ↓w_kTN, ↓wT_var, ↓wT_cst, ↓wT_pr, ↓wT_chain, ↓wT_call, ↓wT_meth, ↓wT_mcall, ↓wT_fld, ↓wC_nil, ↓wC_cons, ↓w_kC, ↓w_kCf2, ↓w_kCf3, ↓wS_expr, ↓wS_asg, ↓wS_asT, ↓w_kAsT, ↓wS_par, ↓w_kPar, ↓wS_setix, ↓w_kSx1, ↓w_kSx2, ↓w_kSx3, ↓wS_setix2, ↓w_kSy1, ↓w_kSy2, ↓w_kSy3, ↓wS_setf, ↓w_kSf1, ↓w_kSf2, ↓wS_aug, ↓w_kAu, ↓wS_ret, ↓wS_retN, ↓wS_ifs, ↓w_kIf, ↓wS_for, ↓w_kFor, ↓wS_whl, ↓wS_brk, ↓wS_cnt, ↓wS_pass, ↓wS_raise, ↓wS_thru, ↓w_itN, ↓w_itP, ↓w_truU, ↓w_truL, ↓w_p1, ↓w_p1l, ↓w_p2, ↓w_p2l, ↓w_p2r, ↓w_eq, ↓w_ne, ↓w_eql, ↓w_nel, ↓w_tup, ↓w_lst, ↓w_lstT, ↓w_frUs0, ↓w_frUs1, ↓w_frUsL, wp_ok, wp_okP, wp_bad, wp_ite, wp_nxt, wp_rdp, wp_frp, wp_some, wp_finp, wp_newU, wp_rdl', wp_setix, wp_setf, wp_updL, wp_guard, kB_ap, kM_ap, kS_nx, kS_rt, kS_bk, kS_ct, kS_ex, kX_ap, kF_rt, kF_nx, kF_ex, oW_s, oW_n, oW_i, prE, bindA, Dfl.w, kCall, kMc2, kNew, truW, tagW, subT, addW, subW, modW, cmpW, ixW, lenW, seqW, isNon, boolsW, MO.frz, fldU, augM, augW, oB, oI, setsL, slW, wp_optI, itemsW, mulW_l', mulW_r', wp_eqI, bnd_nm, bnd_2, bnd_3, bnd_4, wipeL, ix20, ix21, ix30, ix31, ix32, List.any_cons, List.any_nil, String.reduceBEq, Bool.or_false, Bool.or_true, Bool.false_or, Bool.true_or, Bool.and_false, Bool.and_true, Bool.false_and, Bool.true_and, Bool.not_true, Bool.not_false, beq_self_eq_true, Int.reduceLT, Int.reduceLE, Int.reduceEq, Nat.reduceLT, Nat.reduceLeDiff, Nat.reduceEqDiff, decide_true, decide_false, decide_eq_true_eq, and_self, and_true, true_and, List.map_cons, List.map_nil, List.cons_append, List.nil_append, List.append_nil, List.replicate_succ, List.replicate_zero, List.length_cons, List.length_nil, List.getElem?_cons_zero, List.getElem?_cons_succ, List.set_cons_zero, List.set_cons_succ, Option.bind_some, Option.bind_none, Option.map_some, Option.map_none, Nat.reduceSub, Nat.reduceAdd, Nat.sub_self, Nat.add_zero, Nat.zero_add, ite_true, ite_false, if_true, if_false, Bool.false_eq_true, reduceCtorEq, List.take_length, rcv_join, rcv_split, rcv_find, rcv_index, rcv_indexL, rcv_count, rcv_append, rcv_extend, eqF_pp]
      all_goals try first | rfl | exact ⟨_, rfl⟩ | exact ⟨rfl, take_all rfl⟩ | exact ⟨_, rfl, by simp⟩ | exact ⟨_, _, rfl⟩ | exact ⟨_, _, _, rfl⟩ | exact ⟨_, _, _, _, rfl⟩ | exact ⟨rfl, _, rfl⟩ | exact ⟨rfl, _, _, rfl⟩ | exact ⟨rfl, _, _, _, rfl⟩ | exact ⟨rfl, _, _, _, _, rfl⟩
theorem law_pool_wp {k : Nat} {c : Int} {S : Sto} : Wp (callM P (k + 1) "_law_pool" [.p (.int c)]) (fun u S' => ∃ x y z : Int, u = .loc S.length ∧ S' = S ++ [some (.lst [.int x, .int y, .int z])]) noE S := by
  refine w_call fn__law_pool rfl ?_
  simp only [b__law_pool]
  try simp -implicitDefEqProofs only [↓w_bind, ↓w_inS, ↓w_inSb, ↓w_inSs, ↓w_cons, ↓wp_nil, ↓wE_var, ↓wE_cst, ↓wE_glob, ↓wE_pr, ↓w_kAnd, ↓w_kOr, ↓wE_and, ↓wE_or, ↓wE_not, ↓w_kNot, ↓w_kIte, ↓wE_ite, ↓wE_chain, ↓w_kCh1, ↓w_kCh2, ↓w_kCh3, ↓wE_chain3, ↓w_kDh1, ↓w_kDh2, ↓w_kDh3, ↓w_kDh4, ↓w_kDh5, ↓wT_chain3, ↓wE_comp, ↓w_kComp0, ↓w_kComp2f, ↓w_kComp2t, ↓wE_call, ↓wE_meth, ↓w_kMe1, ↓w_kMe2, ↓wE_mcall, ↓w_kMc0, ↓w_kMc1, ↓wE_new, ↓wE_fld, ↓wEs_nil, ↓wEs_cons, ↓w_kEs1, ↓w_kEs2, ↓wT_and, ↓wT_or, ↓wT_not, ↓w_kTA, ↓w_kTO, ↓w_kTN, ↓wT_var, ↓wT_cst, ↓wT_pr, ↓wT_chain, ↓wT_call, ↓wT_meth, ↓wT_mcall, ↓wT_fld, ↓wC_nil, ↓wC_cons, ↓w_kC, ↓w_kCf2, ↓w_kCf3, ↓wS_expr, ↓wS_asg, ↓wS_asT, ↓w_kAsT, ↓wS_par, ↓w_kPar, ↓wS_setix, ↓w_kSx1, ↓w_kSx2, ↓w_kSx3, ↓wS_setix2, ↓w_kSy1, ↓w_kSy2, ↓w_kSy3, ↓wS_setf, ↓w_kSf1, ↓w_kSf2, ↓wS_aug, ↓w_kAu, ↓wS_ret, ↓wS_retN, ↓wS_ifs, ↓w_kIf, ↓wS_for, ↓w_kFor, ↓wS_whl, ↓wS_brk, ↓wS_cnt, ↓wS_pass, ↓wS_raise, ↓wS_thru, ↓w_itN, ↓w_itP, ↓w_truU, ↓w_truL, ↓w_p1, ↓w_p1l, ↓w_p2, ↓w_p2l, ↓w_p2r, ↓w_eq, ↓w_ne, ↓w_eql, ↓w_nel, ↓w_tup, ↓w_lst, ↓w_lstT, ↓w_frUs0, ↓w_frUs1, ↓w_frUsL, wp_ok, wp_okP, wp_bad, wp_ite, wp_nxt, wp_rdp, wp_frp, wp_some, wp_finp, wp_newU, wp_rdl', wp_setix, wp_setf, wp_updL, wp_guard, kB_ap, kM_ap, kS_nx, kS_rt, kS_bk, kS_ct, kS_ex, kX_ap, kF_rt, kF_nx, kF_ex, oW_s, oW_n, oW_i, prE, bindA, Dfl.w, kCall, kMc2, kNew, truW, tagW, subT, addW, subW, modW, cmpW, ixW, lenW, seqW, isNon, boolsW, MO.frz, fldU, augM, augW, oB, oI, setsL, slW, wp_optI, itemsW, mulW_l', mulW_r', wp_eqI, bnd_nm, bnd_2, bnd_3, bnd_4, wipeL, ix20, ix21, ix30, ix31, ix32, List.any_cons, List.any_nil, String.reduceBEq, Bool.or_false, Bool.or_true, Bool.false_or, Bool.true_or, Bool.and_false, Bool.and_true, Bool.false_and, Bool.true_and, Bool.not_true, Bool.not_false, beq_self_eq_true, Int.reduceLT, Int.reduceLE, Int.reduceEq, Nat.reduceLT, Nat.reduceLeDiff, Nat.reduceEqDiff, decide_true, decide_false, decide_eq_true_eq, and_self, and_true, true_and, List.map_cons, List.map_nil, List.cons_append, List.nil_append, List.append_nil, List.replicate_succ, List.replicate_zero, List.length_cons, List.length_nil, List.getElem?_cons_zero, List.getElem?_cons_succ, List.set_cons_zero, List.set_cons_succ, Option.bind_some, Option.bind_none, Option.map_some, Option.map_none, Nat.reduceSub, Nat.reduceAdd, Nat.sub_self, Nat.add_zero, Nat.zero_add, ite_true, ite_false, if_true, if_false, Bool.false_eq_true, reduceCtorEq, List.take_length, rcv_join, rcv_split, rcv_find, rcv_index, rcv_indexL, rcv_count, rcv_append, rcv_extend, eqF_pp, powW_c, mulW_r', Int.reduceNeg]
  have e : ∀ b : Int, Wp (finU true S.length (U.loc S.length)) (fun u S' => ∃ x y z : Int, u = .loc S.length ∧ S' = S ++ [some (MO.lst [W.int x, .int y, .int z])]) noE (S ++ [some (MO.lst [.int b, .int (c % 1000000007 * 7001 + 3001), .int 0])]) := fun b => by
    rw [wp_finl (Nat.le_refl _) app_get, if_pos rfl, app_take]
    exact ⟨_, _, _, rfl, rfl⟩
  split
  · try simp -implicitDefEqProofs only [↓w_bind, ↓w_inS, ↓w_inSb, ↓w_inSs, ↓w_cons, ↓wp_nil, ↓wE_var, ↓wE_cst, ↓wE_glob, ↓wE_pr, ↓w_kAnd, ↓w_kOr, ↓wE_and, ↓wE_or, ↓wE_not, ↓w_kNot, ↓w_kIte, ↓wE_ite, ↓wE_chain, ↓w_kCh1, ↓w_kCh2, ↓w_kCh3, ↓wE_chain3, ↓w_kDh1, ↓w_kDh2, ↓w_kDh3, ↓w_kDh4, ↓w_kDh5, ↓wT_chain3, ↓wE_comp, ↓w_kComp0, ↓w_kComp2f, ↓w_kComp2t, ↓wE_call, ↓wE_meth, ↓w_kMe1, ↓w_kMe2, ↓wE_mcall, ↓w_kMc0, ↓w_kMc1, ↓wE_new, ↓wE_fld, ↓wEs_nil, ↓wEs_cons, ↓w_kEs1, ↓w_kEs2, ↓wT_and, ↓wT_or, ↓wT_not, ↓w_kTA, ↓w_kTO, ↓w_kTN, ↓wT_var, ↓wT_cst, ↓wT_pr, ↓wT_chain, ↓wT_call, ↓wT_meth, ↓wT_mcall, ↓wT_fld, ↓wC_nil, ↓wC_cons, ↓w_kC, ↓w_kCf2, ↓w_kCf3, ↓wS_expr, ↓wS_asg, ↓wS_asT, ↓w_kAsT, ↓wS_par, ↓w_kPar, ↓wS_setix, ↓w_kSx1, ↓w_kSx2, ↓w_kSx3, ↓wS_setix2, ↓w_kSy1, ↓w_kSy2, ↓w_kSy3, ↓wS_setf, ↓w_kSf1, ↓w_kSf2, ↓wS_aug, ↓w_kAu, ↓wS_ret, ↓wS_retN, ↓wS_ifs, ↓w_kIf, ↓wS_for, ↓w_kFor, ↓wS_whl, ↓wS_brk, ↓wS_cnt, ↓wS_pass, ↓wS_raise, ↓wS_thru, ↓w_itN, ↓w_itP, ↓w_truU, ↓w_truL, ↓w_p1, ↓w_p1l, ↓w_p2, ↓w_p2l, ↓w_p2r, ↓w_eq, ↓w_ne, ↓w_eql, ↓w_nel, ↓w_tup, ↓w_lst, ↓w_lstT, ↓w_frUs0, ↓w_frUs1, ↓w_frUsL, wp_ok, wp_okP, wp_bad, wp_ite, wp_nxt, wp_rdp, wp_frp, wp_some, wp_finp, wp_newU, wp_rdl', wp_setix, wp_setf, wp_updL, wp_guard, kB_ap, kM_ap, kS_nx, kS_rt, kS_bk, kS_ct, kS_ex, kX_ap, kF_rt, kF_nx, kF_ex, oW_s, oW_n, oW_i, prE, bindA, Dfl.w, kCall, kMc2, kNew, truW, tagW, subT, addW, subW, modW, cmpW, ixW, lenW, seqW, isNon, boolsW, MO.frz, fldU, augM, augW, oB, oI, setsL, slW, wp_optI, itemsW, mulW_l', mulW_r', wp_eqI, bnd_nm, bnd_2, bnd_3, bnd_4, wipeL, ix20, ix21, ix30, ix31, ix32, List.any_cons, List.any_nil, String.reduceBEq, Bool.or_false, Bool.or_true, Bool.false_or, Bool.true_or, Bool.and_false, Bool.and_true, Bool.false_and, Bool.true_and, Bool.not_true, Bool.not_false, beq_self_eq_true, Int.reduceLT, Int.reduceLE, Int.reduceEq, Nat.reduceLT, Nat.reduceLeDiff, Nat.reduceEqDiff, decide_true, decide_false, decide_eq_true_eq, and_self, and_true, true_and, List.map_cons, List.map_nil, List.cons_append, List.nil_append, List.append_nil, List.replicate_succ, List.replicate_zero, List.length_cons, List.length_nil, List.getElem?_cons_zero, List.getElem?_cons_succ, List.set_cons_zero, List.set_cons_succ, Option.bind_some, Option.bind_none, Option.map_some, Option.map_none, Nat.reduceSub, Nat.reduceAdd, Nat.sub_self, Nat.add_zero, Nat.zero_add, ite_true, ite_false, if_true, if_false, Bool.false_eq_true, reduceCtorEq, List.take_length, rcv_join, rcv_split, rcv_find, rcv_index, rcv_indexL, rcv_count, rcv_append, rcv_extend, eqF_pp]
    exact e _
  · split
    · try simp -implicitDefEqProofs only [↓w_bind, ↓w_inS, ↓w_inSb, ↓w_inSs, ↓w_cons, ↓wp_nil, ↓wE_var, ↓wE_cst, ↓wE_glob, ↓wE_pr, ↓w_kAnd, ↓w_kOr, ↓wE_and, ↓wE_or, ↓wE_not, ↓w_kNot, ↓w_kIte, ↓wE_ite, ↓wE_chain, ↓w_kCh1, ↓w_kCh2, ↓w_kCh3, ↓wE_chain3, ↓w_kDh1, ↓w_kDh2, ↓w_kDh3, ↓w_kDh4, ↓w_kDh5, ↓wT_chain3, ↓wE_comp, ↓w_kComp0, ↓w_kComp2f, ↓w_kComp2t, ↓wE_call, ↓wE_meth, ↓w_kMe1, ↓w_kMe2, ↓wE_mcall, ↓w_kMc0, ↓w_kMc1, ↓wE_new, ↓wE_fld, ↓wEs_nil, ↓wEs_cons, ↓w_kEs1, ↓w_kEs2, ↓wT_and, ↓wT_or, ↓wT_not, ↓w_kTA, ↓w_kTO, ↓w_kTN, ↓wT_var, ↓wT_cst, ↓wT_pr, ↓wT_chain, ↓wT_call, ↓wT_meth, ↓wT_mcall, ↓wT_fld, ↓wC_nil, ↓wC_cons, ↓w_kC, ↓w_kCf2, ↓w_kCf3, ↓wS_expr, ↓wS_asg, ↓wS_asT, ↓w_kAsT, ↓wS_par, ↓w_kPar, ↓wS_setix, ↓w_kSx1, ↓w_kSx2, ↓w_kSx3, ↓wS_setix2, ↓w_kSy1, ↓w_kSy2, ↓w_kSy3, ↓wS_setf, ↓w_kSf1, ↓w_kSf2, ↓wS_aug, ↓w_kAu, ↓wS_ret, ↓wS_retN, ↓wS_ifs, ↓w_kIf, ↓wS_for, ↓w_kFor, ↓wS_whl, ↓wS_brk, ↓wS_cnt, ↓wS_pass, ↓wS_raise, ↓wS_thru, ↓w_itN, ↓w_itP, ↓w_truU, ↓w_truL, ↓w_p1, ↓w_p1l, ↓w_p2, ↓w_p2l, ↓w_p2r, ↓w_eq, ↓w_ne, ↓w_eql, ↓w_nel, ↓w_tup, ↓w_lst, ↓w_lstT, ↓w_frUs0, ↓w_frUs1, ↓w_frUsL, wp_ok, wp_okP, wp_bad, wp_ite, wp_nxt, wp_rdp, wp_frp, wp_some, wp_finp, wp_newU, wp_rdl', wp_setix, wp_setf, wp_updL, wp_guard, kB_ap, kM_ap, kS_nx, kS_rt, kS_bk, kS_ct, kS_ex, kX_ap, kF_rt, kF_nx, kF_ex, oW_s, oW_n, oW_i, prE, bindA, Dfl.w, kCall, kMc2, kNew, truW, tagW, subT, addW, subW, modW, cmpW, ixW, lenW, seqW, isNon, boolsW, MO.frz, fldU, augM, augW, oB, oI, setsL, slW, wp_optI, itemsW, mulW_l', mulW_r', wp_eqI, bnd_nm, bnd_2, bnd_3, bnd_4, wipeL, ix20, ix21, ix30, ix31, ix32, List.any_cons, List.any_nil, String.reduceBEq, Bool.or_false, Bool.or_true, Bool.false_or, Bool.true_or, Bool.and_false, Bool.and_true, Bool.false_and, Bool.true_and, Bool.not_true, Bool.not_false, beq_self_eq_true, Int.reduceLT, Int.reduceLE, Int.reduceEq, Nat.reduceLT, Nat.reduceLeDiff, Nat.reduceEqDiff, decide_true, decide_false, decide_eq_true_eq, and_self, and_true, true_and, List.map_cons, List.map_nil, List.cons_append, List.nil_append, List.append_nil, List.replicate_succ, List.replicate_zero, List.length_cons, List.length_nil, List.getElem?_cons_zero, List.getElem?_cons_succ, List.set_cons_zero, List.set_cons_succ, Option.bind_some, Option.bind_none, Option.map_some, Option.map_none, Nat.reduceSub, Nat.reduceAdd, Nat.sub_self, Nat.add_zero, Nat.zero_add, ite_true, ite_false, if_true, if_false, Bool.false_eq_true, reduceCtorEq, List.take_length, rcv_join, rcv_split, rcv_find, rcv_index, rcv_indexL, rcv_count, rcv_append, rcv_extend, eqF_pp]
      exact e _
    · try simp -implicitDefEqProofs only [↓w_bind, ↓w_inS, ↓w_inSb, ↓w_inSs, ↓w_cons, ↓wp_nil, ↓wE_var, ↓wE_cst, ↓wE_glob, ↓wE_pr, ↓w_kAnd, ↓w_kOr, ↓wE_and, ↓wE_or, ↓wE_not, ↓w_kNot, ↓w_kIte, ↓wE_ite, ↓wE_chain, ↓w_kCh1, ↓w_kCh2, ↓w_kCh3, ↓wE_chain3, ↓w_kDh1, ↓w_kDh2, ↓w_kDh3, ↓w_kDh4, ↓w_kDh5, ↓wT_chain3, ↓wE_comp, ↓w_kComp0, ↓w_kComp2f, ↓w_kComp2t, ↓wE_call, ↓wE_meth, ↓w_kMe1, ↓w_kMe2, ↓wE_mcall, ↓w_kMc0, ↓w_kMc1, ↓wE_new, ↓wE_fld, ↓wEs_nil, ↓wEs_cons, ↓w_kEs1, ↓w_kEs2, ↓wT_and, ↓wT_or, ↓wT_not, ↓w_kTA, ↓w_kTO, ↓w_kTN, ↓wT_var, ↓wT_cst, ↓wT_pr, ↓wT_chain, ↓wT_call, ↓wT_meth, ↓wT_mcall, ↓wT_fld, ↓wC_nil, ↓wC_cons, ↓w_kC, ↓w_kCf2, ↓w_kCf3, ↓wS_expr, ↓wS_asg, ↓wS_asT, ↓w_kAsT, ↓wS_par, ↓w_kPar, ↓wS_setix, ↓w_kSx1, ↓w_kSx2, ↓w_kSx3, ↓wS_setix2, ↓w_kSy1, ↓w_kSy2, ↓w_kSy3, ↓wS_setf, ↓w_kSf1, ↓w_kSf2, ↓wS_aug, ↓w_kAu, ↓wS_ret, ↓wS_retN, ↓wS_ifs, ↓w_kIf, ↓wS_for, ↓w_kFor, ↓wS_whl, ↓wS_brk, ↓wS_cnt, ↓wS_pass, ↓wS_raise, ↓wS_thru, ↓w_itN, ↓w_itP, ↓w_truU, ↓w_truL, ↓w_p1, ↓w_p1l, ↓w_p2, ↓w_p2l, ↓w_p2r, ↓w_eq, ↓w_ne, ↓w_eql, ↓w_nel, ↓w_tup, ↓w_lst, ↓w_lstT, ↓w_frUs0, ↓w_frUs1, ↓w_frUsL, wp_ok, wp_okP, wp_bad, wp_ite, wp_nxt, wp_rdp, wp_frp, wp_some, wp_finp, wp_newU, wp_rdl', wp_setix, wp_setf, wp_updL, wp_guard, kB_ap, kM_ap, kS_nx, kS_rt, kS_bk, kS_ct, kS_ex, kX_ap, kF_rt, kF_nx, kF_ex, oW_s, oW_n, oW_i, prE, bindA, Dfl.w, kCall, kMc2, kNew, truW, tagW, subT, addW, subW, modW, cmpW, ixW, lenW, seqW, isNon, boolsW, MO.frz, fldU, augM, augW, oB, oI, setsL, slW, wp_optI, itemsW, mulW_l', mulW_r', wp_eqI, bnd_nm, bnd_2, bnd_3, bnd_4, wipeL, ix20, ix21, ix30, ix31, ix32, List.any_cons, List.any_nil, String.reduceBEq, Bool.or_false, Bool.or_true, Bool.false_or, Bool.true_or, Bool.and_false, Bool.and_true, Bool.false_and, Bool.true_and, Bool.not_true, Bool.not_false, beq_self_eq_true, Int.reduceLT, Int.reduceLE, Int.reduceEq, Nat.reduceLT, Nat.reduceLeDiff, Nat.reduceEqDiff, decide_true, decide_false, decide_eq_true_eq, and_self, and_true, true_and, List.map_cons, List.map_nil, List.cons_append, List.nil_append, List.append_nil, List.replicate_succ, List.replicate_zero, List.length_cons, List.length_nil, List.getElem?_cons_zero, List.getElem?_cons_succ, List.set_cons_zero, List.set_cons_succ, Option.bind_some, Option.bind_none, Option.map_some, Option.map_none, Nat.reduceSub, Nat.reduceAdd, Nat.sub_self, Nat.add_zero, Nat.zero_add, ite_true, ite_false, if_true, if_false, Bool.false_eq_true, reduceCtorEq, List.take_length, rcv_join, rcv_split, rcv_find, rcv_index, rcv_indexL, rcv_count, rcv_append, rcv_extend, eqF_pp]
      exact e _
theorem law_some_wp {k n : Nat} {m : Int} {S : Sto} (hp : PoolAt S n) (h0 : 0 < m) (h1 : m < 1000) : Wp (callM P (k + 2) "_law_some" [.loc n, .p (.int m)]) (fun u S' => ∃ is : List Int, u = .p (.tup (iW is)) ∧ Asc 0 (m - 1) is ∧ PoolTo S n S') noE S := by
  refine w_call fn__law_some rfl ?_
  simp only [b__law_some]
  try simp -implicitDefEqProofs only [↓w_bind, ↓w_inS, ↓w_inSb, ↓w_inSs, ↓w_cons, ↓wp_nil, ↓wE_var, ↓wE_cst, ↓wE_glob, ↓wE_pr, ↓w_kAnd, ↓w_kOr, ↓wE_and, ↓wE_or, ↓wE_not, ↓w_kNot, ↓w_kIte, ↓wE_ite, ↓wE_chain, ↓w_kCh1, ↓w_kCh2, ↓w_kCh3, ↓wE_chain3, ↓w_kDh1, ↓w_kDh2, ↓w_kDh3, ↓w_kDh4, ↓w_kDh5, ↓wT_chain3, ↓wE_comp, ↓w_kComp0, ↓w_kComp2f, ↓w_kComp2t, ↓wE_call, ↓wE_meth, ↓w_kMe1, ↓w_kMe2, ↓wE_mcall, ↓w_kMc0, ↓w_kMc1, ↓wE_new, ↓wE_fld, ↓wEs_nil, ↓wEs_cons, ↓w_kEs1, ↓w_kEs2, ↓wT_and, ↓wT_or, ↓wT_not, ↓w_kTA, ↓w_kTO, ↓w_kTN, ↓wT_var, ↓wT_cst, ↓wT_pr, ↓wT_chain, ↓wT_call, ↓wT_meth, ↓wT_mcall, ↓wT_fld, ↓wC_nil, ↓wC_cons, ↓w_kC, ↓w_kCf2, ↓w_kCf3, ↓wS_expr, ↓wS_asg, ↓wS_asT, ↓w_kAsT, ↓wS_par, ↓w_kPar, ↓wS_setix, ↓w_kSx1, ↓w_kSx2, ↓w_kSx3, ↓wS_setix2, ↓w_kSy1, ↓w_kSy2, ↓w_kSy3, ↓wS_setf, ↓w_kSf1, ↓w_kSf2, ↓wS_aug, ↓w_kAu, ↓wS_ret, ↓wS_retN, ↓wS_ifs, ↓w_kIf, ↓wS_for, ↓w_kFor, ↓wS_whl, ↓wS_brk, ↓wS_cnt, ↓wS_pass, ↓wS_raise, ↓wS_thru, ↓w_itN, ↓w_itP, ↓w_truU, ↓w_truL, ↓w_p1, ↓w_p1l, ↓w_p2, ↓w_p2l, ↓w_p2r, ↓w_eq, ↓w_ne, ↓w_eql, ↓w_nel, ↓w_tup, ↓w_lst, ↓w_lstT, ↓w_frUs0, ↓w_frUs1, ↓w_frUsL, wp_ok, wp_okP, wp_bad, wp_ite, wp_nxt, wp_rdp, wp_frp, wp_some, wp_finp, wp_newU, wp_rdl', wp_setix, wp_setf, wp_updL, wp_guard, kB_ap, kM_ap, kS_nx, kS_rt, kS_bk, kS_ct, kS_ex, kX_ap, kF_rt, kF_nx, kF_ex, oW_s, oW_n, oW_i, prE, bindA, Dfl.w, kCall, kMc2, kNew, truW, tagW, subT, addW, subW, modW, cmpW, ixW, lenW, seqW, isNon, boolsW, MO.frz, fldU, augM, augW, oB, oI, setsL, slW, wp_optI, itemsW, mulW_l', mulW_r', wp_eqI, bnd_nm, bnd_2, bnd_3, bnd_4, wipeL, ix20, ix21, ix30, ix31, ix32, List.any_cons, List.any_nil, String.reduceBEq, Bool.or_false, Bool.or_true, Bool.false_or, Bool.true_or, Bool.and_false, Bool.and_true, Bool.false_and, Bool.true_and, Bool.not_true, Bool.not_false, beq_self_eq_true, Int.reduceLT, Int.reduceLE, Int.reduceEq, Nat.reduceLT, Nat.reduceLeDiff, Nat.reduceEqDiff, decide_true, decide_false, decide_eq_true_eq, and_self, and_true, true_and, List.map_cons, List.map_nil, List.cons_append, List.nil_append, List.append_nil, List.replicate_succ, List.replicate_zero, List.length_cons, List.length_nil, List.getElem?_cons_zero, List.getElem?_cons_succ, List.set_cons_zero, List.set_cons_succ, Option.bind_some, Option.bind_none, Option.map_some, Option.map_none, Nat.reduceSub, Nat.reduceAdd, Nat.sub_self, Nat.add_zero, Nat.zero_add, ite_true, ite_false, if_true, if_false, Bool.false_eq_true, reduceCtorEq, List.take_length, rcv_join, rcv_split, rcv_find, rcv_index, rcv_indexL, rcv_count, rcv_append, rcv_extend, eqF_pp]
  refine (law_take_wp hp (by decide) (by decide)).mono (fun u S1 ⟨r, e, r0, r1, hp1⟩ => ?_) fun _ _ _ z => z.elim
  subst e
  have hn := hp.len
  have hq := hp1.at_ hn
  have hl := hp1.len
  have ht : S1.take S.length = S1 := take_all hl.symm
  try simp -implicitDefEqProofs only [↓w_bind, ↓w_inS, ↓w_inSb, ↓w_inSs, ↓w_cons, ↓wp_nil, ↓wE_var, ↓wE_cst, ↓wE_glob, ↓wE_pr, ↓w_kAnd, ↓w_kOr, ↓wE_and, ↓wE_or, ↓wE_not, ↓w_kNot, ↓w_kIte, ↓wE_ite, ↓wE_chain, ↓w_kCh1, ↓w_kCh2, ↓w_kCh3, ↓wE_chain3, ↓w_kDh1, ↓w_kDh2, ↓w_kDh3, ↓w_kDh4, ↓w_kDh5, ↓wT_chain3, ↓wE_comp, ↓w_kComp0, ↓w_kComp2f, ↓w_kComp2t, ↓wE_call, ↓wE_meth, ↓w_kMe1, ↓w_kMe2, ↓wE_mcall, ↓w_kMc0, ↓w_kMc1, ↓wE_new, ↓wE_fld, ↓wEs_nil, ↓wEs_cons, ↓w_kEs1, ↓w_kEs2, ↓wT_and, ↓wT_or, ↓wT_not, ↓w_kTA, ↓w_kTO, ↓w_kTN, ↓wT_var, ↓wT_cst, ↓wT_pr, ↓wT_chain, ↓wT_call, ↓wT_meth, ↓wT_mcall, ↓wT_fld, ↓wC_nil, ↓wC_cons, ↓w_kC, ↓w_kCf2, ↓w_kCf3, ↓wS_expr, ↓wS_asg, ↓wS_asT, ↓w_kAsT, ↓wS_par, ↓w_kPar, ↓wS_setix, ↓w_kSx1, ↓w_kSx2, ↓w_kSx3, ↓wS_setix2, ↓w_kSy1, ↓w_kSy2, ↓w_kSy3, ↓wS_setf, ↓w_kSf1, ↓w_kSf2, ↓wS_aug, ↓w_kAu, ↓wS_ret, ↓wS_retN, ↓wS_ifs, ↓w_kIf, ↓wS_for, ↓w_kFor, ↓wS_whl, ↓wS_brk, ↓wS_cnt, ↓wS_pass, ↓wS_raise, ↓wS_thru, ↓w_itN, ↓w_itP, ↓w_truU, ↓w_truL, ↓w_p1, ↓w_p1l, ↓w_p2, ↓w_p2l, ↓w_p2r, ↓w_eq, ↓w_ne, ↓w_eql, ↓w_nel, ↓w_tup, ↓w_lst, ↓w_lstT, ↓w_frUs0, ↓w_frUs1, ↓w_frUsL, wp_ok, wp_okP, wp_bad, wp_ite, wp_nxt, wp_rdp, wp_frp, wp_some, wp_finp, wp_newU, wp_rdl', wp_setix, wp_setf, wp_updL, wp_guard, kB_ap, kM_ap, kS_nx, kS_rt, kS_bk, kS_ct, kS_ex, kX_ap, kF_rt, kF_nx, kF_ex, oW_s, oW_n, oW_i, prE, bindA, Dfl.w, kCall, kMc2, kNew, truW, tagW, subT, addW, subW, modW, cmpW, ixW, lenW, seqW, isNon, boolsW, MO.frz, fldU, augM, augW, oB, oI, setsL, slW, wp_optI, itemsW, mulW_l', mulW_r', wp_eqI, bnd_nm, bnd_2, bnd_3, bnd_4, wipeL, ix20, ix21, ix30, ix31, ix32, List.any_cons, List.any_nil, String.reduceBEq, Bool.or_false, Bool.or_true, Bool.false_or, Bool.true_or, Bool.and_false, Bool.and_true, Bool.false_and, Bool.true_and, Bool.not_true, Bool.not_false, beq_self_eq_true, Int.reduceLT, Int.reduceLE, Int.reduceEq, Nat.reduceLT, Nat.reduceLeDiff, Nat.reduceEqDiff, decide_true, decide_false, decide_eq_true_eq, and_self, and_true, true_and, List.map_cons, List.map_nil, List.cons_append, List.nil_append, List.append_nil, List.replicate_succ, List.replicate_zero, List.length_cons, List.length_nil, List.getElem?_cons_zero, List.getElem?_cons_succ, List.set_cons_zero, List.set_cons_succ, Option.bind_some, Option.bind_none, Option.map_some, Option.map_none, Nat.reduceSub, Nat.reduceAdd, Nat.sub_self, Nat.add_zero, Nat.zero_add, ite_true, ite_false, if_true, if_false, Bool.false_eq_true, reduceCtorEq, List.take_length, rcv_join, rcv_split, rcv_find, rcv_index, rcv_indexL, rcv_count, rcv_append, rcv_extend, eqF_pp, wp_eqI, itU, walkU, itemsW, wp_guard]
  by_cases c1 : r < 2
  · rw [if_pos c1, ht]
    exact ⟨[], rfl, trivial, hp1⟩
  · rw [if_neg c1]
    by_cases c2 : r = 2
    · subst c2
      rw [if_pos (by rfl)]
      refine (law_take_wp hq h0 (by omega)).mono (fun u S2 ⟨r', e, r0', r1', hp2⟩ => ?_) fun _ _ _ z => z.elim
      subst e
      try simp -implicitDefEqProofs only [↓w_bind, ↓w_inS, ↓w_inSb, ↓w_inSs, ↓w_cons, ↓wp_nil, ↓wE_var, ↓wE_cst, ↓wE_glob, ↓wE_pr, ↓w_kAnd, ↓w_kOr, ↓wE_and, ↓wE_or, ↓wE_not, ↓w_kNot, ↓w_kIte, ↓wE_ite, ↓wE_chain, ↓w_kCh1, ↓w_kCh2, ↓w_kCh3, ↓wE_chain3, ↓w_kDh1, ↓w_kDh2, ↓w_kDh3, ↓w_kDh4, ↓w_kDh5, ↓wT_chain3, ↓wE_comp, ↓w_kComp0, ↓w_kComp2f, ↓w_kComp2t, ↓wE_call, ↓wE_meth, ↓w_kMe1, ↓w_kMe2, ↓wE_mcall, ↓w_kMc0, ↓w_kMc1, ↓wE_new, ↓wE_fld, ↓wEs_nil, ↓wEs_cons, ↓w_kEs1, ↓w_kEs2, ↓wT_and, ↓wT_or, ↓wT_not, ↓w_kTA, ↓w_kTO, ↓w_kTN, ↓wT_var, ↓wT_cst, ↓wT_pr, ↓wT_chain, ↓wT_call, ↓wT_meth, ↓wT_mcall, ↓wT_fld, ↓wC_nil, ↓wC_cons, ↓w_kC, ↓w_kCf2, ↓w_kCf3, ↓wS_expr, ↓wS_asg, ↓wS_asT, ↓w_kAsT, ↓wS_par, ↓w_kPar, ↓wS_setix, ↓w_kSx1, ↓w_kSx2, ↓w_kSx3, ↓wS_setix2, ↓w_kSy1, ↓w_kSy2, ↓w_kSy3, ↓wS_setf, ↓w_kSf1, ↓w_kSf2, ↓wS_aug, ↓w_kAu, ↓wS_ret, ↓wS_retN, ↓wS_ifs, ↓w_kIf, ↓wS_for, ↓w_kFor, ↓wS_whl, ↓wS_brk, ↓wS_cnt, ↓wS_pass, ↓wS_raise, ↓wS_thru, ↓w_itN, ↓w_itP, ↓w_truU, ↓w_truL, ↓w_p1, ↓w_p1l, ↓w_p2, ↓w_p2l, ↓w_p2r, ↓w_eq, ↓w_ne, ↓w_eql, ↓w_nel, ↓w_tup, ↓w_lst, ↓w_lstT, ↓w_frUs0, ↓w_frUs1, ↓w_frUsL, wp_ok, wp_okP, wp_bad, wp_ite, wp_nxt, wp_rdp, wp_frp, wp_some, wp_finp, wp_newU, wp_rdl', wp_setix, wp_setf, wp_updL, wp_guard, kB_ap, kM_ap, kS_nx, kS_rt, kS_bk, kS_ct, kS_ex, kX_ap, kF_rt, kF_nx, kF_ex, oW_s, oW_n, oW_i, prE, bindA, Dfl.w, kCall, kMc2, kNew, truW, tagW, subT, addW, subW, modW, cmpW, ixW, lenW, seqW, isNon, boolsW, MO.frz, fldU, augM, augW, oB, oI, setsL, slW, wp_optI, itemsW, mulW_l', mulW_r', wp_eqI, bnd_nm, bnd_2, bnd_3, bnd_4, wipeL, ix20, ix21, ix30, ix31, ix32, List.any_cons, List.any_nil, String.reduceBEq, Bool.or_false, Bool.or_true, Bool.false_or, Bool.true_or, Bool.and_false, Bool.and_true, Bool.false_and, Bool.true_and, Bool.not_true, Bool.not_false, beq_self_eq_true, Int.reduceLT, Int.reduceLE, Int.reduceEq, Nat.reduceLT, Nat.reduceLeDiff, Nat.reduceEqDiff, decide_true, decide_false, decide_eq_true_eq, and_self, and_true, true_and, List.map_cons, List.map_nil, List.cons_append, List.nil_append, List.append_nil, List.replicate_succ, List.replicate_zero, List.length_cons, List.length_nil, List.getElem?_cons_zero, List.getElem?_cons_succ, List.set_cons_zero, List.set_cons_succ, Option.bind_some, Option.bind_none, Option.map_some, Option.map_none, Nat.reduceSub, Nat.reduceAdd, Nat.sub_self, Nat.add_zero, Nat.zero_add, ite_true, ite_false, if_true, if_false, Bool.false_eq_true, reduceCtorEq, List.take_length, rcv_join, rcv_split, rcv_find, rcv_index, rcv_indexL, rcv_count, rcv_append, rcv_extend, eqF_pp]
      rw [take_all (by rw [hp2.len, hl])]
      exact ⟨[r'], rfl, ⟨r0', by omega, trivial⟩, hp1.trans hp2⟩
    · rw [if_neg (by simpa using c2)]
      have hm : line62 m = true := by simp [line62]; omega
      try simp -implicitDefEqProofs only [↓w_bind, ↓w_inS, ↓w_inSb, ↓w_inSs, ↓w_cons, ↓wp_nil, ↓wE_var, ↓wE_cst, ↓wE_glob, ↓wE_pr, ↓w_kAnd, ↓w_kOr, ↓wE_and, ↓wE_or, ↓wE_not, ↓w_kNot, ↓w_kIte, ↓wE_ite, ↓wE_chain, ↓w_kCh1, ↓w_kCh2, ↓w_kCh3, ↓wE_chain3, ↓w_kDh1, ↓w_kDh2, ↓w_kDh3, ↓w_kDh4, ↓w_kDh5, ↓wT_chain3, ↓wE_comp, ↓w_kComp0, ↓w_kComp2f, ↓w_kComp2t, ↓wE_call, ↓wE_meth, ↓w_kMe1, ↓w_kMe2, ↓wE_mcall, ↓w_kMc0, ↓w_kMc1, ↓wE_new, ↓wE_fld, ↓wEs_nil, ↓wEs_cons, ↓w_kEs1, ↓w_kEs2, ↓wT_and, ↓wT_or, ↓wT_not, ↓w_kTA, ↓w_kTO, ↓w_kTN, ↓wT_var, ↓wT_cst, ↓wT_pr, ↓wT_chain, ↓wT_call, ↓wT_meth, ↓wT_mcall, ↓wT_fld, ↓wC_nil, ↓wC_cons, ↓w_kC, ↓w_kCf2, ↓w_kCf3, ↓wS_expr, ↓wS_asg, ↓wS_asT, ↓w_kAsT, ↓wS_par, ↓w_kPar, ↓wS_setix, ↓w_kSx1, ↓w_kSx2, ↓w_kSx3, ↓wS_setix2, ↓w_kSy1, ↓w_kSy2, ↓w_kSy3, ↓wS_setf, ↓w_kSf1, ↓w_kSf2, ↓wS_aug, ↓w_kAu, ↓wS_ret, ↓wS_retN, ↓wS_ifs, ↓w_kIf, ↓wS_for, ↓w_kFor, ↓wS_whl, ↓wS_brk, ↓wS_cnt, ↓wS_pass, ↓wS_raise, ↓wS_thru, ↓w_itN, ↓w_itP, ↓w_truU, ↓w_truL, ↓w_p1, ↓w_p1l, ↓w_p2, ↓w_p2l, ↓w_p2r, ↓w_eq, ↓w_ne, ↓w_eql, ↓w_nel, ↓w_tup, ↓w_lst, ↓w_lstT, ↓w_frUs0, ↓w_frUs1, ↓w_frUsL, wp_ok, wp_okP, wp_bad, wp_ite, wp_nxt, wp_rdp, wp_frp, wp_some, wp_finp, wp_newU, wp_rdl', wp_setix, wp_setf, wp_updL, wp_guard, kB_ap, kM_ap, kS_nx, kS_rt, kS_bk, kS_ct, kS_ex, kX_ap, kF_rt, kF_nx, kF_ex, oW_s, oW_n, oW_i, prE, bindA, Dfl.w, kCall, kMc2, kNew, truW, tagW, subT, addW, subW, modW, cmpW, ixW, lenW, seqW, isNon, boolsW, MO.frz, fldU, augM, augW, oB, oI, setsL, slW, wp_optI, itemsW, mulW_l', mulW_r', wp_eqI, bnd_nm, bnd_2, bnd_3, bnd_4, wipeL, ix20, ix21, ix30, ix31, ix32, List.any_cons, List.any_nil, String.reduceBEq, Bool.or_false, Bool.or_true, Bool.false_or, Bool.true_or, Bool.and_false, Bool.and_true, Bool.false_and, Bool.true_and, Bool.not_true, Bool.not_false, beq_self_eq_true, Int.reduceLT, Int.reduceLE, Int.reduceEq, Nat.reduceLT, Nat.reduceLeDiff, Nat.reduceEqDiff, decide_true, decide_false, decide_eq_true_eq, and_self, and_true, true_and, List.map_cons, List.map_nil, List.cons_append, List.nil_append, List.append_nil, List.replicate_succ, List.replicate_zero, List.length_cons, List.length_nil, List.getElem?_cons_zero, List.getElem?_cons_succ, List.set_cons_zero, List.set_cons_succ, Option.bind_some, Option.bind_none, Option.map_some, Option.map_none, Nat.reduceSub, Nat.reduceAdd, Nat.sub_self, Nat.add_zero, Nat.zero_add, ite_true, ite_false, if_true, if_false, Bool.false_eq_true, reduceCtorEq, List.take_length, rcv_join, rcv_split, rcv_find, rcv_index, rcv_indexL, rcv_count, rcv_append, rcv_extend, eqF_pp, hm]
      refine ⟨by simp [rng, bigLine]; omega, ?_⟩
      refine wp_compS (I := fun S' => PoolTo S n S') hp1 (fun w hw S2 hp2 => ?_) fun ys S2 hp2 hs => ?_
      · have hw0 : w ∈ iW ((List.range (m - 0).toNat).map fun (i : Nat) => (0 : Int) + (i : Int)) := by rw [← rng_eq]; exact hw
        obtain ⟨i, _, rfl⟩ := List.mem_map.mp hw0
        have hr : r = 3 ∨ r = 4 := by omega
        have go : ∀ c : Int, 0 < c → c < 10 → Wp (callM P (k + 1) "_law_take" [U.loc n, .p (.int c)]) (fun u S' => ∃ r : Int, u = .p (.int r) ∧ PoolTo S n S') noE S2 := fun c c0 c1 =>
          (law_take_wp (hp2.at_ hn) c0 (by omega)).to fun u S3 ⟨r, e, _, _, h3⟩ => ⟨r, e, hp2.trans h3⟩
        rcases hr with rfl | rfl
        · (rw [w_compF rfl]); try simp -implicitDefEqProofs only [↓w_bind, ↓w_inS, ↓w_inSb, ↓w_inSs, ↓w_cons, ↓wp_nil, ↓wE_var, ↓wE_cst, ↓wE_glob, ↓wE_pr, ↓w_kAnd, ↓w_kOr, ↓wE_and, ↓wE_or, ↓wE_not, ↓w_kNot, ↓w_kIte, ↓wE_ite, ↓wE_chain, ↓w_kCh1, ↓w_kCh2, ↓w_kCh3, ↓wE_chain3, ↓w_kDh1, ↓w_kDh2, ↓w_kDh3, ↓w_kDh4, ↓w_kDh5, ↓wT_chain3, ↓wE_comp, ↓w_kComp0, ↓w_kComp2f, ↓w_kComp2t, ↓wE_call, ↓wE_meth, ↓w_kMe1, ↓w_kMe2, ↓wE_mcall, ↓w_kMc0, ↓w_kMc1, ↓wE_new, ↓wE_fld, ↓wEs_nil, ↓wEs_cons, ↓w_kEs1, ↓w_kEs2, ↓wT_and, ↓wT_or, ↓wT_not, ↓w_kTA, ↓w_kTO, ↓w_kTN, ↓wT_var, ↓wT_cst, ↓wT_pr, ↓wT_chain, ↓wT_call, ↓wT_meth, ↓wT_mcall, ↓wT_fld, ↓wC_nil, ↓wC_cons, ↓w_kC, ↓w_kCf2, ↓w_kCf3, ↓wS_expr, ↓wS_asg, ↓wS_asT, ↓w_kAsT, ↓wS_par, ↓w_kPar, ↓wS_setix, ↓w_kSx1, ↓w_kSx2, ↓w_kSx3, ↓wS_setix2, ↓w_kSy1, ↓w_kSy2, ↓w_kSy3, ↓wS_setf, ↓w_kSf1, ↓w_kSf2, ↓wS_aug, ↓w_kAu, ↓wS_ret, ↓wS_retN, ↓wS_ifs, ↓w_kIf, ↓wS_for, ↓w_kFor, ↓wS_whl, ↓wS_brk, ↓wS_cnt, ↓wS_pass, ↓wS_raise, ↓wS_thru, ↓w_itN, ↓w_itP, ↓w_truU, ↓w_truL, ↓w_p1, ↓w_p1l, ↓w_p2, ↓w_p2l, ↓w_p2r, ↓w_eq, ↓w_ne, ↓w_eql, ↓w_nel, ↓w_tup, ↓w_lst, ↓w_lstT, ↓w_frUs0, ↓w_frUs1, ↓w_frUsL, wp_ok, wp_okP, wp_bad, wp_ite, wp_nxt, wp_rdp, wp_frp, wp_some, wp_finp, wp_newU, wp_rdl', wp_setix, wp_setf, wp_updL, wp_guard, kB_ap, kM_ap, kS_nx, kS_rt, kS_bk, kS_ct, kS_ex, kX_ap, kF_rt, kF_nx, kF_ex, oW_s, oW_n, oW_i, prE, bindA, Dfl.w, kCall, kMc2, kNew, truW, tagW, subT, addW, subW, modW, cmpW, ixW, lenW, seqW, isNon, boolsW, MO.frz, fldU, augM, augW, oB, oI, setsL, slW, wp_optI, itemsW, mulW_l', mulW_r', wp_eqI, bnd_nm, bnd_2, bnd_3, bnd_4, wipeL, ix20, ix21, ix30, ix31, ix32, List.any_cons, List.any_nil, String.reduceBEq, Bool.or_false, Bool.or_true, Bool.false_or, Bool.true_or, Bool.and_false, Bool.and_true, Bool.false_and, Bool.true_and, Bool.not_true, Bool.not_false, beq_self_eq_true, Int.reduceLT, Int.reduceLE, Int.reduceEq, Nat.reduceLT, Nat.reduceLeDiff, Nat.reduceEqDiff, decide_true, decide_false, decide_eq_true_eq, and_self, and_true, true_and, List.map_cons, List.map_nil, List.cons_append, List.nil_append, List.append_nil, List.replicate_succ, List.replicate_zero, List.length_cons, List.length_nil, List.getElem?_cons_zero, List.getElem?_cons_succ, List.set_cons_zero, List.set_cons_succ, Option.bind_some, Option.bind_none, Option.map_some, Option.map_none, Nat.reduceSub, Nat.reduceAdd, Nat.sub_self, Nat.add_zero, Nat.zero_add, ite_true, ite_false, if_true, if_false, Bool.false_eq_true, reduceCtorEq, List.take_length, rcv_join, rcv_split, rcv_find, rcv_index, rcv_indexL, rcv_count, rcv_append, rcv_extend, eqF_pp, Int.reduceSub]
          refine (go 4 (by decide) (by decide)).mono (fun u S3 ⟨r, e, h3⟩ => ?_) fun _ _ _ z => z.elim
          subst e
          try simp -implicitDefEqProofs only [↓w_bind, ↓w_inS, ↓w_inSb, ↓w_inSs, ↓w_cons, ↓wp_nil, ↓wE_var, ↓wE_cst, ↓wE_glob, ↓wE_pr, ↓w_kAnd, ↓w_kOr, ↓wE_and, ↓wE_or, ↓wE_not, ↓w_kNot, ↓w_kIte, ↓wE_ite, ↓wE_chain, ↓w_kCh1, ↓w_kCh2, ↓w_kCh3, ↓wE_chain3, ↓w_kDh1, ↓w_kDh2, ↓w_kDh3, ↓w_kDh4, ↓w_kDh5, ↓wT_chain3, ↓wE_comp, ↓w_kComp0, ↓w_kComp2f, ↓w_kComp2t, ↓wE_call, ↓wE_meth, ↓w_kMe1, ↓w_kMe2, ↓wE_mcall, ↓w_kMc0, ↓w_kMc1, ↓wE_new, ↓wE_fld, ↓wEs_nil, ↓wEs_cons, ↓w_kEs1, ↓w_kEs2, ↓wT_and, ↓wT_or, ↓wT_not, ↓w_kTA, ↓w_kTO, ↓w_kTN, ↓wT_var, ↓wT_cst, ↓wT_pr, ↓wT_chain, ↓wT_call, ↓wT_meth, ↓wT_mcall, ↓wT_fld, ↓wC_nil, ↓wC_cons, ↓w_kC, ↓w_kCf2, ↓w_kCf3, ↓wS_expr, ↓wS_asg, ↓wS_asT, ↓w_kAsT, ↓wS_par, ↓w_kPar, ↓wS_setix, ↓w_kSx1, ↓w_kSx2, ↓w_kSx3, ↓wS_setix2, ↓w_kSy1, ↓w_kSy2, ↓w_kSy3, ↓wS_setf, ↓w_kSf1, ↓w_kSf2, ↓wS_aug, ↓w_kAu, ↓wS_ret, ↓wS_retN, ↓wS_ifs, ↓w_kIf, ↓wS_for, ↓w_kFor, ↓wS_whl, ↓wS_brk, ↓wS_cnt, ↓wS_pass, ↓wS_raise, ↓wS_thru, ↓w_itN, ↓w_itP, ↓w_truU, ↓w_truL, ↓w_p1, ↓w_p1l, ↓w_p2, ↓w_p2l, ↓w_p2r, ↓w_eq, ↓w_ne, ↓w_eql, ↓w_nel, ↓w_tup, ↓w_lst, ↓w_lstT, ↓w_frUs0, ↓w_frUs1, ↓w_frUsL, wp_ok, wp_okP, wp_bad, wp_ite, wp_nxt, wp_rdp, wp_frp, wp_some, wp_finp, wp_newU, wp_rdl', wp_setix, wp_setf, wp_updL, wp_guard, kB_ap, kM_ap, kS_nx, kS_rt, kS_bk, kS_ct, kS_ex, kX_ap, kF_rt, kF_nx, kF_ex, oW_s, oW_n, oW_i, prE, bindA, Dfl.w, kCall, kMc2, kNew, truW, tagW, subT, addW, subW, modW, cmpW, ixW, lenW, seqW, isNon, boolsW, MO.frz, fldU, augM, augW, oB, oI, setsL, slW, wp_optI, itemsW, mulW_l', mulW_r', wp_eqI, bnd_nm, bnd_2, bnd_3, bnd_4, wipeL, ix20, ix21, ix30, ix31, ix32, List.any_cons, List.any_nil, String.reduceBEq, Bool.or_false, Bool.or_true, Bool.false_or, Bool.true_or, Bool.and_false, Bool.and_true, Bool.false_and, Bool.true_and, Bool.not_true, Bool.not_false, beq_self_eq_true, Int.reduceLT, Int.reduceLE, Int.reduceEq, Nat.reduceLT, Nat.reduceLeDiff, Nat.reduceEqDiff, decide_true, decide_false, decide_eq_true_eq, and_self, and_true, true_and, List.map_cons, List.map_nil, List.cons_append, List.nil_append, List.append_nil, List.replicate_succ, List.replicate_zero, List.length_cons, List.length_nil, List.getElem?_cons_zero, List.getElem?_cons_succ, List.set_cons_zero, List.set_cons_succ, Option.bind_some, Option.bind_none, Option.map_some, Option.map_none, Nat.reduceSub, Nat.reduceAdd, Nat.sub_self, Nat.add_zero, Nat.zero_add, ite_true, ite_false, if_true, if_false, Bool.false_eq_true, reduceCtorEq, List.take_length, rcv_join, rcv_split, rcv_find, rcv_index, rcv_indexL, rcv_count, rcv_append, rcv_extend, eqF_pp]
          split
          · exact ⟨h3, by simp⟩
          · exact ⟨h3, by simp⟩
        · (rw [w_compF rfl]); try simp -implicitDefEqProofs only [↓w_bind, ↓w_inS, ↓w_inSb, ↓w_inSs, ↓w_cons, ↓wp_nil, ↓wE_var, ↓wE_cst, ↓wE_glob, ↓wE_pr, ↓w_kAnd, ↓w_kOr, ↓wE_and, ↓wE_or, ↓wE_not, ↓w_kNot, ↓w_kIte, ↓wE_ite, ↓wE_chain, ↓w_kCh1, ↓w_kCh2, ↓w_kCh3, ↓wE_chain3, ↓w_kDh1, ↓w_kDh2, ↓w_kDh3, ↓w_kDh4, ↓w_kDh5, ↓wT_chain3, ↓wE_comp, ↓w_kComp0, ↓w_kComp2f, ↓w_kComp2t, ↓wE_call, ↓wE_meth, ↓w_kMe1, ↓w_kMe2, ↓wE_mcall, ↓w_kMc0, ↓w_kMc1, ↓wE_new, ↓wE_fld, ↓wEs_nil, ↓wEs_cons, ↓w_kEs1, ↓w_kEs2, ↓wT_and, ↓wT_or, ↓wT_not, ↓w_kTA, ↓w_kTO, ↓w_kTN, ↓wT_var, ↓wT_cst, ↓wT_pr, ↓wT_chain, ↓wT_call, ↓wT_meth, ↓wT_mcall, ↓wT_fld, ↓wC_nil, ↓wC_cons, ↓w_kC, ↓w_kCf2, ↓w_kCf3, ↓wS_expr, ↓wS_asg, ↓wS_asT, ↓w_kAsT, ↓wS_par, ↓w_kPar, ↓wS_setix, ↓w_kSx1, ↓w_kSx2, ↓w_kSx3, ↓wS_setix2, ↓w_kSy1, ↓w_kSy2, ↓w_kSy3, ↓wS_setf, ↓w_kSf1, ↓w_kSf2, ↓wS_aug, ↓w_kAu, ↓wS_ret, ↓wS_retN, ↓wS_ifs, ↓w_kIf, ↓wS_for, ↓w_kFor, ↓wS_whl, ↓wS_brk, ↓wS_cnt, ↓wS_pass, ↓wS_raise, ↓wS_thru, ↓w_itN, ↓w_itP, ↓w_truU, ↓w_truL, ↓w_p1, ↓w_p1l, ↓w_p2, ↓w_p2l, ↓w_p2r, ↓w_eq, ↓w_ne, ↓w_eql, ↓w_nel, ↓w_tup, ↓w_lst, ↓w_lstT, ↓w_frUs0, ↓w_frUs1, ↓w_frUsL, wp_ok, wp_okP, wp_bad, wp_ite, wp_nxt, wp_rdp, wp_frp, wp_some, wp_finp, wp_newU, wp_rdl', wp_setix, wp_setf, wp_updL, wp_guard, kB_ap, kM_ap, kS_nx, kS_rt, kS_bk, kS_ct, kS_ex, kX_ap, kF_rt, kF_nx, kF_ex, oW_s, oW_n, oW_i, prE, bindA, Dfl.w, kCall, kMc2, kNew, truW, tagW, subT, addW, subW, modW, cmpW, ixW, lenW, seqW, isNon, boolsW, MO.frz, fldU, augM, augW, oB, oI, setsL, slW, wp_optI, itemsW, mulW_l', mulW_r', wp_eqI, bnd_nm, bnd_2, bnd_3, bnd_4, wipeL, ix20, ix21, ix30, ix31, ix32, List.any_cons, List.any_nil, String.reduceBEq, Bool.or_false, Bool.or_true, Bool.false_or, Bool.true_or, Bool.and_false, Bool.and_true, Bool.false_and, Bool.true_and, Bool.not_true, Bool.not_false, beq_self_eq_true, Int.reduceLT, Int.reduceLE, Int.reduceEq, Nat.reduceLT, Nat.reduceLeDiff, Nat.reduceEqDiff, decide_true, decide_false, decide_eq_true_eq, and_self, and_true, true_and, List.map_cons, List.map_nil, List.cons_append, List.nil_append, List.append_nil, List.replicate_succ, List.replicate_zero, List.length_cons, List.length_nil, List.getElem?_cons_zero, List.getElem?_cons_succ, List.set_cons_zero, List.set_cons_succ, Option.bind_some, Option.bind_none, Option.map_some, Option.map_none, Nat.reduceSub, Nat.reduceAdd, Nat.sub_self, Nat.add_zero, Nat.zero_add, ite_true, ite_false, if_true, if_false, Bool.false_eq_true, reduceCtorEq, List.take_length, rcv_join, rcv_split, rcv_find, rcv_index, rcv_indexL, rcv_count, rcv_append, rcv_extend, eqF_pp, Int.reduceSub]
          refine (go 2 (by decide) (by decide)).mono (fun u S3 ⟨r, e, h3⟩ => ?_) fun _ _ _ z => z.elim
          subst e
          try simp -implicitDefEqProofs only [↓w_bind, ↓w_inS, ↓w_inSb, ↓w_inSs, ↓w_cons, ↓wp_nil, ↓wE_var, ↓wE_cst, ↓wE_glob, ↓wE_pr, ↓w_kAnd, ↓w_kOr, ↓wE_and, ↓wE_or, ↓wE_not, ↓w_kNot, ↓w_kIte, ↓wE_ite, ↓wE_chain, ↓w_kCh1, ↓w_kCh2, ↓w_kCh3, ↓wE_chain3, ↓w_kDh1, ↓w_kDh2, ↓w_kDh3, ↓w_kDh4, ↓w_kDh5, ↓wT_chain3, ↓wE_comp, ↓w_kComp0, ↓w_kComp2f, ↓w_kComp2t, ↓wE_call, ↓wE_meth, ↓w_kMe1, ↓w_kMe2, ↓wE_mcall, ↓w_kMc0, ↓w_kMc1, ↓wE_new, ↓wE_fld, ↓wEs_nil, ↓wEs_cons, ↓w_kEs1, ↓w_kEs2, ↓wT_and, ↓wT_or, ↓wT_not, ↓w_kTA, ↓w_kTO, ↓w_kTN, ↓wT_var, ↓wT_cst, ↓wT_pr, ↓wT_chain, ↓wT_call, ↓wT_meth, ↓wT_mcall, ↓wT_fld, ↓wC_nil, ↓wC_cons, ↓w_kC, ↓w_kCf2, ↓w_kCf3, ↓wS_expr, ↓wS_asg, ↓wS_asT, ↓w_kAsT, ↓wS_par, ↓w_kPar, ↓wS_setix, ↓w_kSx1, ↓w_kSx2, ↓w_kSx3, ↓wS_setix2, ↓w_kSy1, ↓w_kSy2, ↓w_kSy3, ↓wS_setf, ↓w_kSf1, ↓w_kSf2, ↓wS_aug, ↓w_kAu, ↓wS_ret, ↓wS_retN, ↓wS_ifs, ↓w_kIf, ↓wS_for, ↓w_kFor, ↓wS_whl, ↓wS_brk, ↓wS_cnt, ↓wS_pass, ↓wS_raise, ↓wS_thru, ↓w_itN, ↓w_itP, ↓w_truU, ↓w_truL, ↓w_p1, ↓w_p1l, ↓w_p2, ↓w_p2l, ↓w_p2r, ↓w_eq, ↓w_ne, ↓w_eql, ↓w_nel, ↓w_tup, ↓w_lst, ↓w_lstT, ↓w_frUs0, ↓w_frUs1, ↓w_frUsL, wp_ok, wp_okP, wp_bad, wp_ite, wp_nxt, wp_rdp, wp_frp, wp_some, wp_finp, wp_newU, wp_rdl', wp_setix, wp_setf, wp_updL, wp_guard, kB_ap, kM_ap, kS_nx, kS_rt, kS_bk, kS_ct, kS_ex, kX_ap, kF_rt, kF_nx, kF_ex, oW_s, oW_n, oW_i, prE, bindA, Dfl.w, kCall, kMc2, kNew, truW, tagW, subT, addW, subW, modW, cmpW, ixW, lenW, seqW, isNon, boolsW, MO.frz, fldU, augM, augW, oB, oI, setsL, slW, wp_optI, itemsW, mulW_l', mulW_r', wp_eqI, bnd_nm, bnd_2, bnd_3, bnd_4, wipeL, ix20, ix21, ix30, ix31, ix32, List.any_cons, List.any_nil, String.reduceBEq, Bool.or_false, Bool.or_true, Bool.false_or, Bool.true_or, Bool.and_false, Bool.and_true, Bool.false_and, Bool.true_and, Bool.not_true, Bool.not_false, beq_self_eq_true, Int.reduceLT, Int.reduceLE, Int.reduceEq, Nat.reduceLT, Nat.reduceLeDiff, Nat.reduceEqDiff, decide_true, decide_false, decide_eq_true_eq, and_self, and_true, true_and, List.map_cons, List.map_nil, List.cons_append, List.nil_append, List.append_nil, List.replicate_succ, List.replicate_zero, List.length_cons, List.length_nil, List.getElem?_cons_zero, List.getElem?_cons_succ, List.set_cons_zero, List.set_cons_succ, Option.bind_some, Option.bind_none, Option.map_some, Option.map_none, Nat.reduceSub, Nat.reduceAdd, Nat.sub_self, Nat.add_zero, Nat.zero_add, ite_true, ite_false, if_true, if_false, Bool.false_eq_true, reduceCtorEq, List.take_length, rcv_join, rcv_split, rcv_find, rcv_index, rcv_indexL, rcv_count, rcv_append, rcv_extend, eqF_pp]
          split
          · exact ⟨h3, by simp⟩
          · exact ⟨h3, by simp⟩
      · rw [rng_eq] at hs
        obtain ⟨js, e, hj⟩ := sub_ints hs
        subst e
        refine ⟨js, rfl, ?_, ?_⟩
        · have := rng_asc (m - 0).toNat 0
          rw [show (0 : Int) + ((m - 0).toNat : Int) - 1 = m - 1 by omega] at this
          exact this.sub hj
        · rw [take_all hp2.len.symm]
          exact hp2
theorem is_ascending_eq {k : Nat} {is : List Int} {lo hi : Int} (h : Asc lo hi is) (hl : is.length ≤ bigLine) : callM P (k + 2) "is_ascending" [.p (.tup (iW is)), .p (.int lo), .p (.int hi)] = okP (.bl true) := by
  refine eq_of_wp fun S => w_call fn_is_ascending rfl ?_
  simp only [b_is_ascending]
  try simp -implicitDefEqProofs only [↓w_bind, ↓w_inS, ↓w_inSb, ↓w_inSs, ↓w_cons, ↓wp_nil, ↓wE_var, ↓wE_cst, ↓wE_glob, ↓wE_pr, ↓w_kAnd, ↓w_kOr, ↓wE_and, ↓wE_or, ↓wE_not, ↓w_kNot, ↓w_kIte, ↓wE_ite, ↓wE_chain, ↓w_kCh1, ↓w_kCh2, ↓w_kCh3, ↓wE_chain3, ↓w_kDh1, ↓w_kDh2, ↓w_kDh3, ↓w_kDh4, ↓w_kDh5, ↓wT_chain3, ↓wE_comp, ↓w_kComp0, ↓w_kComp2f, ↓w_kComp2t, ↓wE_call, ↓wE_meth, ↓w_kMe1, ↓w_kMe2, ↓wE_mcall, ↓w_kMc0, ↓w_kMc1, ↓wE_new, ↓wE_fld, ↓wEs_nil, ↓wEs_cons, ↓w_kEs1, ↓w_kEs2, ↓wT_and, ↓wT_or, ↓wT_not, ↓w_kTA, ↓w_kTO, ↓w_kTN, ↓wT_var, ↓wT_cst, ↓wT_pr, ↓wT_chain, ↓wT_call, ↓wT_meth, ↓wT_mcall, ↓wT_fld, ↓wC_nil, ↓wC_cons, ↓w_kC, ↓w_kCf2, ↓w_kCf3, ↓wS_expr, ↓wS_asg, ↓wS_asT, ↓w_kAsT, ↓wS_par, ↓w_kPar, ↓wS_setix, ↓w_kSx1, ↓w_kSx2, ↓w_kSx3, ↓wS_setix2, ↓w_kSy1, ↓w_kSy2, ↓w_kSy3, ↓wS_setf, ↓w_kSf1, ↓w_kSf2, ↓wS_aug, ↓w_kAu, ↓wS_ret, ↓wS_retN, ↓wS_ifs, ↓w_kIf, ↓wS_for, ↓w_kFor, ↓wS_whl, ↓wS_brk, ↓wS_cnt, ↓wS_pass, ↓wS_raise, ↓wS_thru, ↓w_itN, ↓w_itP, ↓w_truU, ↓w_truL, ↓w_p1, ↓w_p1l, ↓w_p2, ↓w_p2l, ↓w_p2r, ↓w_eq, ↓w_ne, ↓w_eql, ↓w_nel, ↓w_tup, ↓w_lst, ↓w_lstT, ↓w_frUs0, ↓w_frUs1, ↓w_frUsL, wp_ok, wp_okP, wp_bad, wp_ite, wp_nxt, wp_rdp, wp_frp, wp_some, wp_finp, wp_newU, wp_rdl', wp_setix, wp_setf, wp_updL, wp_guard, kB_ap, kM_ap, kS_nx, kS_rt, kS_bk, kS_ct, kS_ex, kX_ap, kF_rt, kF_nx, kF_ex, oW_s, oW_n, oW_i, prE, bindA, Dfl.w, kCall, kMc2, kNew, truW, tagW, subT, addW, subW, modW, cmpW, ixW, lenW, seqW, isNon, boolsW, MO.frz, fldU, augM, augW, oB, oI, setsL, slW, wp_optI, itemsW, mulW_l', mulW_r', wp_eqI, bnd_nm, bnd_2, bnd_3, bnd_4, wipeL, ix20, ix21, ix30, ix31, ix32, List.any_cons, List.any_nil, String.reduceBEq, Bool.or_false, Bool.or_true, Bool.false_or, Bool.true_or, Bool.and_false, Bool.and_true, Bool.false_and, Bool.true_and, Bool.not_true, Bool.not_false, beq_self_eq_true, Int.reduceLT, Int.reduceLE, Int.reduceEq, Nat.reduceLT, Nat.reduceLeDiff, Nat.reduceEqDiff, decide_true, decide_false, decide_eq_true_eq, and_self, and_true, true_and, List.map_cons, List.map_nil, List.cons_append, List.nil_append, List.append_nil, List.replicate_succ, List.replicate_zero, List.length_cons, List.length_nil, List.getElem?_cons_zero, List.getElem?_cons_succ, List.set_cons_zero, List.set_cons_succ, Option.bind_some, Option.bind_none, Option.map_some, Option.map_none, Nat.reduceSub, Nat.reduceAdd, Nat.sub_self, Nat.add_zero, Nat.zero_add, ite_true, ite_false, if_true, if_false, Bool.false_eq_true, reduceCtorEq, List.take_length, rcv_join, rcv_split, rcv_find, rcv_index, rcv_indexL, rcv_count, rcv_append, rcv_extend, eqF_pp, itU, walkU, itemsW, wp_guard, List.length_map, hl]
  rw [wp_compM (g := fun w => .bl (isIntB w lo hi)) fun w hw => ?_]
  · try simp -implicitDefEqProofs only [↓w_bind, ↓w_inS, ↓w_inSb, ↓w_inSs, ↓w_cons, ↓wp_nil, ↓wE_var, ↓wE_cst, ↓wE_glob, ↓wE_pr, ↓w_kAnd, ↓w_kOr, ↓wE_and, ↓wE_or, ↓wE_not, ↓w_kNot, ↓w_kIte, ↓wE_ite, ↓wE_chain, ↓w_kCh1, ↓w_kCh2, ↓w_kCh3, ↓wE_chain3, ↓w_kDh1, ↓w_kDh2, ↓w_kDh3, ↓w_kDh4, ↓w_kDh5, ↓wT_chain3, ↓wE_comp, ↓w_kComp0, ↓w_kComp2f, ↓w_kComp2t, ↓wE_call, ↓wE_meth, ↓w_kMe1, ↓w_kMe2, ↓wE_mcall, ↓w_kMc0, ↓w_kMc1, ↓wE_new, ↓wE_fld, ↓wEs_nil, ↓wEs_cons, ↓w_kEs1, ↓w_kEs2, ↓wT_and, ↓wT_or, ↓wT_not, ↓w_kTA, ↓w_kTO, ↓w_kTN, ↓wT_var, ↓wT_cst, ↓wT_pr, ↓wT_chain, ↓wT_call, ↓wT_meth, ↓wT_mcall, ↓wT_fld, ↓wC_nil, ↓wC_cons, ↓w_kC, ↓w_kCf2, ↓w_kCf3, ↓wS_expr, ↓wS_asg, ↓wS_asT, ↓w_kAsT, ↓wS_par, ↓w_kPar, ↓wS_setix, ↓w_kSx1, ↓w_kSx2, ↓w_kSx3, ↓wS_setix2, ↓w_kSy1, ↓w_kSy2, ↓w_kSy3, ↓wS_setf, ↓w_kSf1, ↓w_kSf2, ↓wS_aug, ↓w_kAu, ↓wS_ret, ↓wS_retN, ↓wS_ifs, ↓w_kIf, ↓wS_for, ↓w_kFor, ↓wS_whl, ↓wS_brk, ↓wS_cnt, ↓wS_pass, ↓wS_raise, ↓wS_thru, ↓w_itN, ↓w_itP, ↓w_truU, ↓w_truL, ↓w_p1, ↓w_p1l, ↓w_p2, ↓w_p2l, ↓w_p2r, ↓w_eq, ↓w_ne, ↓w_eql, ↓w_nel, ↓w_tup, ↓w_lst, ↓w_lstT, ↓w_frUs0, ↓w_frUs1, ↓w_frUsL, wp_ok, wp_okP, wp_bad, wp_ite, wp_nxt, wp_rdp, wp_frp, wp_some, wp_finp, wp_newU, wp_rdl', wp_setix, wp_setf, wp_updL, wp_guard, kB_ap, kM_ap, kS_nx, kS_rt, kS_bk, kS_ct, kS_ex, kX_ap, kF_rt, kF_nx, kF_ex, oW_s, oW_n, oW_i, prE, bindA, Dfl.w, kCall, kMc2, kNew, truW, tagW, subT, addW, subW, modW, cmpW, ixW, lenW, seqW, isNon, boolsW, MO.frz, fldU, augM, augW, oB, oI, setsL, slW, wp_optI, itemsW, mulW_l', mulW_r', wp_eqI, bnd_nm, bnd_2, bnd_3, bnd_4, wipeL, ix20, ix21, ix30, ix31, ix32, List.any_cons, List.any_nil, String.reduceBEq, Bool.or_false, Bool.or_true, Bool.false_or, Bool.true_or, Bool.and_false, Bool.and_true, Bool.false_and, Bool.true_and, Bool.not_true, Bool.not_false, beq_self_eq_true, Int.reduceLT, Int.reduceLE, Int.reduceEq, Nat.reduceLT, Nat.reduceLeDiff, Nat.reduceEqDiff, decide_true, decide_false, decide_eq_true_eq, and_self, and_true, true_and, List.map_cons, List.map_nil, List.cons_append, List.nil_append, List.append_nil, List.replicate_succ, List.replicate_zero, List.length_cons, List.length_nil, List.getElem?_cons_zero, List.getElem?_cons_succ, List.set_cons_zero, List.set_cons_succ, Option.bind_some, Option.bind_none, Option.map_some, Option.map_none, Nat.reduceSub, Nat.reduceAdd, Nat.sub_self, Nat.add_zero, Nat.zero_add, ite_true, ite_false, if_true, if_false, Bool.false_eq_true, reduceCtorEq, List.take_length, rcv_join, rcv_split, rcv_find, rcv_index, rcv_indexL, rcv_count, rcv_append, rcv_extend, eqF_pp, bools_map, all_id, asc_ints h, cut1, zipW]
    refine ⟨by unfold zipL; rw [List.length_zipWith, List.length_map]; omega, ?_⟩
    rw [wp_compM (g := fun w => .bl (ltP w)) fun w hw => ?_]
    · try simp -implicitDefEqProofs only [↓w_bind, ↓w_inS, ↓w_inSb, ↓w_inSs, ↓w_cons, ↓wp_nil, ↓wE_var, ↓wE_cst, ↓wE_glob, ↓wE_pr, ↓w_kAnd, ↓w_kOr, ↓wE_and, ↓wE_or, ↓wE_not, ↓w_kNot, ↓w_kIte, ↓wE_ite, ↓wE_chain, ↓w_kCh1, ↓w_kCh2, ↓w_kCh3, ↓wE_chain3, ↓w_kDh1, ↓w_kDh2, ↓w_kDh3, ↓w_kDh4, ↓w_kDh5, ↓wT_chain3, ↓wE_comp, ↓w_kComp0, ↓w_kComp2f, ↓w_kComp2t, ↓wE_call, ↓wE_meth, ↓w_kMe1, ↓w_kMe2, ↓wE_mcall, ↓w_kMc0, ↓w_kMc1, ↓wE_new, ↓wE_fld, ↓wEs_nil, ↓wEs_cons, ↓w_kEs1, ↓w_kEs2, ↓wT_and, ↓wT_or, ↓wT_not, ↓w_kTA, ↓w_kTO, ↓w_kTN, ↓wT_var, ↓wT_cst, ↓wT_pr, ↓wT_chain, ↓wT_call, ↓wT_meth, ↓wT_mcall, ↓wT_fld, ↓wC_nil, ↓wC_cons, ↓w_kC, ↓w_kCf2, ↓w_kCf3, ↓wS_expr, ↓wS_asg, ↓wS_asT, ↓w_kAsT, ↓wS_par, ↓w_kPar, ↓wS_setix, ↓w_kSx1, ↓w_kSx2, ↓w_kSx3, ↓wS_setix2, ↓w_kSy1, ↓w_kSy2, ↓w_kSy3, ↓wS_setf, ↓w_kSf1, ↓w_kSf2, ↓wS_aug, ↓w_kAu, ↓wS_ret, ↓wS_retN, ↓wS_ifs, ↓w_kIf, ↓wS_for, ↓w_kFor, ↓wS_whl, ↓wS_brk, ↓wS_cnt, ↓wS_pass, ↓wS_raise, ↓wS_thru, ↓w_itN, ↓w_itP, ↓w_truU, ↓w_truL, ↓w_p1, ↓w_p1l, ↓w_p2, ↓w_p2l, ↓w_p2r, ↓w_eq, ↓w_ne, ↓w_eql, ↓w_nel, ↓w_tup, ↓w_lst, ↓w_lstT, ↓w_frUs0, ↓w_frUs1, ↓w_frUsL, wp_ok, wp_okP, wp_bad, wp_ite, wp_nxt, wp_rdp, wp_frp, wp_some, wp_finp, wp_newU, wp_rdl', wp_setix, wp_setf, wp_updL, wp_guard, kB_ap, kM_ap, kS_nx, kS_rt, kS_bk, kS_ct, kS_ex, kX_ap, kF_rt, kF_nx, kF_ex, oW_s, oW_n, oW_i, prE, bindA, Dfl.w, kCall, kMc2, kNew, truW, tagW, subT, addW, subW, modW, cmpW, ixW, lenW, seqW, isNon, boolsW, MO.frz, fldU, augM, augW, oB, oI, setsL, slW, wp_optI, itemsW, mulW_l', mulW_r', wp_eqI, bnd_nm, bnd_2, bnd_3, bnd_4, wipeL, ix20, ix21, ix30, ix31, ix32, List.any_cons, List.any_nil, String.reduceBEq, Bool.or_false, Bool.or_true, Bool.false_or, Bool.true_or, Bool.and_false, Bool.and_true, Bool.false_and, Bool.true_and, Bool.not_true, Bool.not_false, beq_self_eq_true, Int.reduceLT, Int.reduceLE, Int.reduceEq, Nat.reduceLT, Nat.reduceLeDiff, Nat.reduceEqDiff, decide_true, decide_false, decide_eq_true_eq, and_self, and_true, true_and, List.map_cons, List.map_nil, List.cons_append, List.nil_append, List.append_nil, List.replicate_succ, List.replicate_zero, List.length_cons, List.length_nil, List.getElem?_cons_zero, List.getElem?_cons_succ, List.set_cons_zero, List.set_cons_succ, Option.bind_some, Option.bind_none, Option.map_some, Option.map_none, Nat.reduceSub, Nat.reduceAdd, Nat.sub_self, Nat.add_zero, Nat.zero_add, ite_true, ite_false, if_true, if_false, Bool.false_eq_true, reduceCtorEq, List.take_length, rcv_join, rcv_split, rcv_find, rcv_index, rcv_indexL, rcv_count, rcv_append, rcv_extend, eqF_pp, bools_map, all_id, asc_zip h]
      all_goals try first | rfl | exact ⟨rfl, take_all rfl⟩
    · obtain ⟨i, hi⟩ := List.mem_iff_getElem?.mp hw
      obtain ⟨x, y, e1, e2, rfl⟩ := zip_get hi
      rw [List.getElem?_map, Option.map_eq_some_iff] at e1
      rw [List.getElem?_drop, List.getElem?_map, Option.map_eq_some_iff] at e2
      obtain ⟨a, _, rfl⟩ := e1
      obtain ⟨b, _, rfl⟩ := e2
      rw [w_compF rfl]
      try simp -implicitDefEqProofs only [↓w_bind, ↓w_inS, ↓w_inSb, ↓w_inSs, ↓w_cons, ↓wp_nil, ↓wE_var, ↓wE_cst, ↓wE_glob, ↓wE_pr, ↓w_kAnd, ↓w_kOr, ↓wE_and, ↓wE_or, ↓wE_not, ↓w_kNot, ↓w_kIte, ↓wE_ite, ↓wE_chain, ↓w_kCh1, ↓w_kCh2, ↓w_kCh3, ↓wE_chain3, ↓w_kDh1, ↓w_kDh2, ↓w_kDh3, ↓w_kDh4, ↓w_kDh5, ↓wT_chain3, ↓wE_comp, ↓w_kComp0, ↓w_kComp2f, ↓w_kComp2t, ↓wE_call, ↓wE_meth, ↓w_kMe1, ↓w_kMe2, ↓wE_mcall, ↓w_kMc0, ↓w_kMc1, ↓wE_new, ↓wE_fld, ↓wEs_nil, ↓wEs_cons, ↓w_kEs1, ↓w_kEs2, ↓wT_and, ↓wT_or, ↓wT_not, ↓w_kTA, ↓w_kTO, ↓w_kTN, ↓wT_var, ↓wT_cst, ↓wT_pr, ↓wT_chain, ↓wT_call, ↓wT_meth, ↓wT_mcall, ↓wT_fld, ↓wC_nil, ↓wC_cons, ↓w_kC, ↓w_kCf2, ↓w_kCf3, ↓wS_expr, ↓wS_asg, ↓wS_asT, ↓w_kAsT, ↓wS_par, ↓w_kPar, ↓wS_setix, ↓w_kSx1, ↓w_kSx2, ↓w_kSx3, ↓wS_setix2, ↓w_kSy1, ↓w_kSy2, ↓w_kSy3, ↓wS_setf, ↓w_kSf1, ↓w_kSf2, ↓wS_aug, ↓w_kAu, ↓wS_ret, ↓wS_retN, ↓wS_ifs, ↓w_kIf, ↓wS_for, ↓w_kFor, ↓wS_whl, ↓wS_brk, ↓wS_cnt, ↓wS_pass, ↓wS_raise, ↓wS_thru, ↓w_itN, ↓w_itP, ↓w_truU, ↓w_truL, ↓w_p1, ↓w_p1l, ↓w_p2, ↓w_p2l, ↓w_p2r, ↓w_eq, ↓w_ne, ↓w_eql, ↓w_nel, ↓w_tup, ↓w_lst, ↓w_lstT, ↓w_frUs0, ↓w_frUs1, ↓w_frUsL, wp_ok, wp_okP, wp_bad, wp_ite, wp_nxt, wp_rdp, wp_frp, wp_some, wp_finp, wp_newU, wp_rdl', wp_setix, wp_setf, wp_updL, wp_guard, kB_ap, kM_ap, kS_nx, kS_rt, kS_bk, kS_ct, kS_ex, kX_ap, kF_rt, kF_nx, kF_ex, oW_s, oW_n, oW_i, prE, bindA, Dfl.w, kCall, kMc2, kNew, truW, tagW, subT, addW, subW, modW, cmpW, ixW, lenW, seqW, isNon, boolsW, MO.frz, fldU, augM, augW, oB, oI, setsL, slW, wp_optI, itemsW, mulW_l', mulW_r', wp_eqI, bnd_nm, bnd_2, bnd_3, bnd_4, wipeL, ix20, ix21, ix30, ix31, ix32, List.any_cons, List.any_nil, String.reduceBEq, Bool.or_false, Bool.or_true, Bool.false_or, Bool.true_or, Bool.and_false, Bool.and_true, Bool.false_and, Bool.true_and, Bool.not_true, Bool.not_false, beq_self_eq_true, Int.reduceLT, Int.reduceLE, Int.reduceEq, Nat.reduceLT, Nat.reduceLeDiff, Nat.reduceEqDiff, decide_true, decide_false, decide_eq_true_eq, and_self, and_true, true_and, List.map_cons, List.map_nil, List.cons_append, List.nil_append, List.append_nil, List.replicate_succ, List.replicate_zero, List.length_cons, List.length_nil, List.getElem?_cons_zero, List.getElem?_cons_succ, List.set_cons_zero, List.set_cons_succ, Option.bind_some, Option.bind_none, Option.map_some, Option.map_none, Nat.reduceSub, Nat.reduceAdd, Nat.sub_self, Nat.add_zero, Nat.zero_add, ite_true, ite_false, if_true, if_false, Bool.false_eq_true, reduceCtorEq, List.take_length, rcv_join, rcv_split, rcv_find, rcv_index, rcv_indexL, rcv_count, rcv_append, rcv_extend, eqF_pp, ltP]
  · obtain ⟨i, hi, rfl⟩ := List.mem_map.mp hw
    rw [w_compF rfl]
    try simp -implicitDefEqProofs only [↓w_bind, ↓w_inS, ↓w_inSb, ↓w_inSs, ↓w_cons, ↓wp_nil, ↓wE_var, ↓wE_cst, ↓wE_glob, ↓wE_pr, ↓w_kAnd, ↓w_kOr, ↓wE_and, ↓wE_or, ↓wE_not, ↓w_kNot, ↓w_kIte, ↓wE_ite, ↓wE_chain, ↓w_kCh1, ↓w_kCh2, ↓w_kCh3, ↓wE_chain3, ↓w_kDh1, ↓w_kDh2, ↓w_kDh3, ↓w_kDh4, ↓w_kDh5, ↓wT_chain3, ↓wE_comp, ↓w_kComp0, ↓w_kComp2f, ↓w_kComp2t, ↓wE_call, ↓wE_meth, ↓w_kMe1, ↓w_kMe2, ↓wE_mcall, ↓w_kMc0, ↓w_kMc1, ↓wE_new, ↓wE_fld, ↓wEs_nil, ↓wEs_cons, ↓w_kEs1, ↓w_kEs2, ↓wT_and, ↓wT_or, ↓wT_not, ↓w_kTA, ↓w_kTO, ↓w_kTN, ↓wT_var, ↓wT_cst, ↓wT_pr, ↓wT_chain, ↓wT_call, ↓wT_meth, ↓wT_mcall, ↓wT_fld, ↓wC_nil, ↓wC_cons, ↓w_kC, ↓w_kCf2, ↓w_kCf3, ↓wS_expr, ↓wS_asg, ↓wS_asT, ↓w_kAsT, ↓wS_par, ↓w_kPar, ↓wS_setix, ↓w_kSx1, ↓w_kSx2, ↓w_kSx3, ↓wS_setix2, ↓w_kSy1, ↓w_kSy2, ↓w_kSy3, ↓wS_setf, ↓w_kSf1, ↓w_kSf2, ↓wS_aug, ↓w_kAu, ↓wS_ret, ↓wS_retN, ↓wS_ifs, ↓w_kIf, ↓wS_for, ↓w_kFor, ↓wS_whl, ↓wS_brk, ↓wS_cnt, ↓wS_pass, ↓wS_raise, ↓wS_thru, ↓w_itN, ↓w_itP, ↓w_truU, ↓w_truL, ↓w_p1, ↓w_p1l, ↓w_p2, ↓w_p2l, ↓w_p2r, ↓w_eq, ↓w_ne, ↓w_eql, ↓w_nel, ↓w_tup, ↓w_lst, ↓w_lstT, ↓w_frUs0, ↓w_frUs1, ↓w_frUsL, wp_ok, wp_okP, wp_bad, wp_ite, wp_nxt, wp_rdp, wp_frp, wp_some, wp_finp, wp_newU, wp_rdl', wp_setix, wp_setf, wp_updL, wp_guard, kB_ap, kM_ap, kS_nx, kS_rt, kS_bk, kS_ct, kS_ex, kX_ap, kF_rt, kF_nx, kF_ex, oW_s, oW_n, oW_i, prE, bindA, Dfl.w, kCall, kMc2, kNew, truW, tagW, subT, addW, subW, modW, cmpW, ixW, lenW, seqW, isNon, boolsW, MO.frz, fldU, augM, augW, oB, oI, setsL, slW, wp_optI, itemsW, mulW_l', mulW_r', wp_eqI, bnd_nm, bnd_2, bnd_3, bnd_4, wipeL, ix20, ix21, ix30, ix31, ix32, List.any_cons, List.any_nil, String.reduceBEq, Bool.or_false, Bool.or_true, Bool.false_or, Bool.true_or, Bool.and_false, Bool.and_true, Bool.false_and, Bool.true_and, Bool.not_true, Bool.not_false, beq_self_eq_true, Int.reduceLT, Int.reduceLE, Int.reduceEq, Nat.reduceLT, Nat.reduceLeDiff, Nat.reduceEqDiff, decide_true, decide_false, decide_eq_true_eq, and_self, and_true, true_and, List.map_cons, List.map_nil, List.cons_append, List.nil_append, List.append_nil, List.replicate_succ, List.replicate_zero, List.length_cons, List.length_nil, List.getElem?_cons_zero, List.getElem?_cons_succ, List.set_cons_zero, List.set_cons_succ, Option.bind_some, Option.bind_none, Option.map_some, Option.map_none, Nat.reduceSub, Nat.reduceAdd, Nat.sub_self, Nat.add_zero, Nat.zero_add, ite_true, ite_false, if_true, if_false, Bool.false_eq_true, reduceCtorEq, List.take_length, rcv_join, rcv_split, rcv_find, rcv_index, rcv_indexL, rcv_count, rcv_append, rcv_extend, eqF_pp, is_integer_eq (w := .int i) rfl]
theorem checked_prices_nil {k : Nat} {n : Int} (h : 2 ≤ n) (h' : n ≤ 1000) : callM P (k + 1) "checked_prices" [.p (.int n), .p (.tup [])] = okP (.tup (iW (List.replicate n.toNat 1))) := by
  rw [← rptL_one]
  refine eq_of_wp fun S => w_call fn_checked_prices rfl ?_
  simp only [b_checked_prices]
  try simp -implicitDefEqProofs only [↓w_bind, ↓w_inS, ↓w_inSb, ↓w_inSs, ↓w_cons, ↓wp_nil, ↓wE_var, ↓wE_cst, ↓wE_glob, ↓wE_pr, ↓w_kAnd, ↓w_kOr, ↓wE_and, ↓wE_or, ↓wE_not, ↓w_kNot, ↓w_kIte, ↓wE_ite, ↓wE_chain, ↓w_kCh1, ↓w_kCh2, ↓w_kCh3, ↓wE_chain3, ↓w_kDh1, ↓w_kDh2, ↓w_kDh3, ↓w_kDh4, ↓w_kDh5, ↓wT_chain3, ↓wE_comp, ↓w_kComp0, ↓w_kComp2f, ↓w_kComp2t, ↓wE_call, ↓wE_meth, ↓w_kMe1, ↓w_kMe2, ↓wE_mcall, ↓w_kMc0, ↓w_kMc1, ↓wE_new, ↓wE_fld, ↓wEs_nil, ↓wEs_cons, ↓w_kEs1, ↓w_kEs2, ↓wT_and, ↓wT_or, ↓wT_not, ↓w_kTA, ↓w_kTO, ↓w_kTN, ↓wT_var, ↓wT_cst, ↓wT_pr, ↓wT_chain, ↓wT_call, ↓wT_meth, ↓wT_mcall, ↓wT_fld, ↓wC_nil, ↓wC_cons, ↓w_kC, ↓w_kCf2, ↓w_kCf3, ↓wS_expr, ↓wS_asg, ↓wS_asT, ↓w_kAsT, ↓wS_par, ↓w_kPar, ↓wS_setix, ↓w_kSx1, ↓w_kSx2, ↓w_kSx3, ↓wS_setix2, ↓w_kSy1, ↓w_kSy2, ↓w_kSy3, ↓wS_setf, ↓w_kSf1, ↓w_kSf2, ↓wS_aug, ↓w_kAu, ↓wS_ret, ↓wS_retN, ↓wS_ifs, ↓w_kIf, ↓wS_for, ↓w_kFor, ↓wS_whl, ↓wS_brk, ↓wS_cnt, ↓wS_pass, ↓wS_raise, ↓wS_thru, ↓w_itN, ↓w_itP, ↓w_truU, ↓w_truL, ↓w_p1, ↓w_p1l, ↓w_p2, ↓w_p2l, ↓w_p2r, ↓w_eq, ↓w_ne, ↓w_eql, ↓w_nel, ↓w_tup, ↓w_lst, ↓w_lstT, ↓w_frUs0, ↓w_frUs1, ↓w_frUsL, wp_ok, wp_okP, wp_bad, wp_ite, wp_nxt, wp_rdp, wp_frp, wp_some, wp_finp, wp_newU, wp_rdl', wp_setix, wp_setf, wp_updL, wp_guard, kB_ap, kM_ap, kS_nx, kS_rt, kS_bk, kS_ct, kS_ex, kX_ap, kF_rt, kF_nx, kF_ex, oW_s, oW_n, oW_i, prE, bindA, Dfl.w, kCall, kMc2, kNew, truW, tagW, subT, addW, subW, modW, cmpW, ixW, lenW, seqW, isNon, boolsW, MO.frz, fldU, augM, augW, oB, oI, setsL, slW, wp_optI, itemsW, mulW_l', mulW_r', wp_eqI, bnd_nm, bnd_2, bnd_3, bnd_4, wipeL, ix20, ix21, ix30, ix31, ix32, List.any_cons, List.any_nil, String.reduceBEq, Bool.or_false, Bool.or_true, Bool.false_or, Bool.true_or, Bool.and_false, Bool.and_true, Bool.false_and, Bool.true_and, Bool.not_true, Bool.not_false, beq_self_eq_true, Int.reduceLT, Int.reduceLE, Int.reduceEq, Nat.reduceLT, Nat.reduceLeDiff, Nat.reduceEqDiff, decide_true, decide_false, decide_eq_true_eq, and_self, and_true, true_and, List.map_cons, List.map_nil, List.cons_append, List.nil_append, List.append_nil, List.replicate_succ, List.replicate_zero, List.length_cons, List.length_nil, List.getElem?_cons_zero, List.getElem?_cons_succ, List.set_cons_zero, List.set_cons_succ, Option.bind_some, Option.bind_none, Option.map_some, Option.map_none, Nat.reduceSub, Nat.reduceAdd, Nat.sub_self, Nat.add_zero, Nat.zero_add, ite_true, ite_false, if_true, if_false, Bool.false_eq_true, reduceCtorEq, List.take_length, rcv_join, rcv_split, rcv_find, rcv_index, rcv_indexL, rcv_count, rcv_append, rcv_extend, eqF_pp, eq_nil, mul_one h h']
  all_goals try first | rfl | exact take_all rfl
theorem checked_prices_all {k : Nat} {n : Int} {ps : List Int} (h : 2 ≤ n) (h' : n ≤ 1000) (hl : (ps.length : Int) = n) (hp : ∀ p ∈ ps, 1 ≤ p ∧ p ≤ 999) : callM P (k + 2) "checked_prices" [.p (.int n), .p (.tup (iW ps))] = okP (.tup (iW ps)) := by
  have hne : ps ≠ [] := by rintro rfl; simp at hl; omega
  have hne2 : (n == n) = true := by simp
  have g1 : P.glob "MAX_PRICE" = some (.int 999) := rfl
  refine eq_of_wp fun S => w_call fn_checked_prices rfl ?_
  simp only [b_checked_prices]
  try simp -implicitDefEqProofs only [↓w_bind, ↓w_inS, ↓w_inSb, ↓w_inSs, ↓w_cons, ↓wp_nil, ↓wE_var, ↓wE_cst, ↓wE_glob, ↓wE_pr, ↓w_kAnd, ↓w_kOr, ↓wE_and, ↓wE_or, ↓wE_not, ↓w_kNot, ↓w_kIte, ↓wE_ite, ↓wE_chain, ↓w_kCh1, ↓w_kCh2, ↓w_kCh3, ↓wE_chain3, ↓w_kDh1, ↓w_kDh2, ↓w_kDh3, ↓w_kDh4, ↓w_kDh5, ↓wT_chain3, ↓wE_comp, ↓w_kComp0, ↓w_kComp2f, ↓w_kComp2t, ↓wE_call, ↓wE_meth, ↓w_kMe1, ↓w_kMe2, ↓wE_mcall, ↓w_kMc0, ↓w_kMc1, ↓wE_new, ↓wE_fld, ↓wEs_nil, ↓wEs_cons, ↓w_kEs1, ↓w_kEs2, ↓wT_and, ↓wT_or, ↓wT_not, ↓w_kTA, ↓w_kTO, ↓w_kTN, ↓wT_var, ↓wT_cst, ↓wT_pr, ↓wT_chain, ↓wT_call, ↓wT_meth, ↓wT_mcall, ↓wT_fld, ↓wC_nil, ↓wC_cons, ↓w_kC, ↓w_kCf2, ↓w_kCf3, ↓wS_expr, ↓wS_asg, ↓wS_asT, ↓w_kAsT, ↓wS_par, ↓w_kPar, ↓wS_setix, ↓w_kSx1, ↓w_kSx2, ↓w_kSx3, ↓wS_setix2, ↓w_kSy1, ↓w_kSy2, ↓w_kSy3, ↓wS_setf, ↓w_kSf1, ↓w_kSf2, ↓wS_aug, ↓w_kAu, ↓wS_ret, ↓wS_retN, ↓wS_ifs, ↓w_kIf, ↓wS_for, ↓w_kFor, ↓wS_whl, ↓wS_brk, ↓wS_cnt, ↓wS_pass, ↓wS_raise, ↓wS_thru, ↓w_itN, ↓w_itP, ↓w_truU, ↓w_truL, ↓w_p1, ↓w_p1l, ↓w_p2, ↓w_p2l, ↓w_p2r, ↓w_eq, ↓w_ne, ↓w_eql, ↓w_nel, ↓w_tup, ↓w_lst, ↓w_lstT, ↓w_frUs0, ↓w_frUs1, ↓w_frUsL, wp_ok, wp_okP, wp_bad, wp_ite, wp_nxt, wp_rdp, wp_frp, wp_some, wp_finp, wp_newU, wp_rdl', wp_setix, wp_setf, wp_updL, wp_guard, kB_ap, kM_ap, kS_nx, kS_rt, kS_bk, kS_ct, kS_ex, kX_ap, kF_rt, kF_nx, kF_ex, oW_s, oW_n, oW_i, prE, bindA, Dfl.w, kCall, kMc2, kNew, truW, tagW, subT, addW, subW, modW, cmpW, ixW, lenW, seqW, isNon, boolsW, MO.frz, fldU, augM, augW, oB, oI, setsL, slW, wp_optI, itemsW, mulW_l', mulW_r', wp_eqI, bnd_nm, bnd_2, bnd_3, bnd_4, wipeL, ix20, ix21, ix30, ix31, ix32, List.any_cons, List.any_nil, String.reduceBEq, Bool.or_false, Bool.or_true, Bool.false_or, Bool.true_or, Bool.and_false, Bool.and_true, Bool.false_and, Bool.true_and, Bool.not_true, Bool.not_false, beq_self_eq_true, Int.reduceLT, Int.reduceLE, Int.reduceEq, Nat.reduceLT, Nat.reduceLeDiff, Nat.reduceEqDiff, decide_true, decide_false, decide_eq_true_eq, and_self, and_true, true_and, List.map_cons, List.map_nil, List.cons_append, List.nil_append, List.append_nil, List.replicate_succ, List.replicate_zero, List.length_cons, List.length_nil, List.getElem?_cons_zero, List.getElem?_cons_succ, List.set_cons_zero, List.set_cons_succ, Option.bind_some, Option.bind_none, Option.map_some, Option.map_none, Nat.reduceSub, Nat.reduceAdd, Nat.sub_self, Nat.add_zero, Nat.zero_add, ite_true, ite_false, if_true, if_false, Bool.false_eq_true, reduceCtorEq, List.take_length, rcv_join, rcv_split, rcv_find, rcv_index, rcv_indexL, rcv_count, rcv_append, rcv_extend, eqF_pp, wp_eqN hne, List.length_map, wp_eqI, hl, hne2]
  refine wp_forL (I := fun _ τ S' => S' = S ∧ ∃ a b, τ = [some (.p (.int n)), some (.p (.tup (iW ps))), a, b]) ⟨rfl, _, _, rfl⟩ ?_ ?_
  · rintro j w τ S' hw ⟨rfl, a, b, rfl⟩
    obtain ⟨x, hx, rfl⟩ := enumI_get hw
    obtain ⟨y, hy, rfl⟩ := ints_get hx
    have hm := hp y (List.mem_of_getElem? hy)
    refine ⟨_, bnd_2, ?_⟩
    generalize (j : Int) = q
    try simp -implicitDefEqProofs only [↓w_bind, ↓w_inS, ↓w_inSb, ↓w_inSs, ↓w_cons, ↓wp_nil, ↓wE_var, ↓wE_cst, ↓wE_glob, ↓wE_pr, ↓w_kAnd, ↓w_kOr, ↓wE_and, ↓wE_or, ↓wE_not, ↓w_kNot, ↓w_kIte, ↓wE_ite, ↓wE_chain, ↓w_kCh1, ↓w_kCh2, ↓w_kCh3, ↓wE_chain3, ↓w_kDh1, ↓w_kDh2, ↓w_kDh3, ↓w_kDh4, ↓w_kDh5, ↓wT_chain3, ↓wE_comp, ↓w_kComp0, ↓w_kComp2f, ↓w_kComp2t, ↓wE_call, ↓wE_meth, ↓w_kMe1, ↓w_kMe2, ↓wE_mcall, ↓w_kMc0, ↓w_kMc1, ↓wE_new, ↓wE_fld, ↓wEs_nil, ↓wEs_cons, ↓w_kEs1, ↓w_kEs2, ↓wT_and, ↓wT_or, ↓wT_not, ↓w_kTA, ↓w_kTO, ↓w_kTN, ↓wT_var, ↓wT_cst, ↓wT_pr, ↓wT_chain, ↓wT_call, ↓wT_meth, ↓wT_mcall, ↓wT_fld, ↓wC_nil, ↓wC_cons, ↓w_kC, ↓w_kCf2, ↓w_kCf3, ↓wS_expr, ↓wS_asg, ↓wS_asT, ↓w_kAsT, ↓wS_par, ↓w_kPar, ↓wS_setix, ↓w_kSx1, ↓w_kSx2, ↓w_kSx3, ↓wS_setix2, ↓w_kSy1, ↓w_kSy2, ↓w_kSy3, ↓wS_setf, ↓w_kSf1, ↓w_kSf2, ↓wS_aug, ↓w_kAu, ↓wS_ret, ↓wS_retN, ↓wS_ifs, ↓w_kIf, ↓wS_for, ↓w_kFor, ↓wS_whl, ↓wS_brk, ↓wS_cnt, ↓wS_pass, ↓wS_raise, ↓wS_thru, ↓w_itN, ↓w_itP, ↓w_truU, ↓w_truL, ↓w_p1, ↓w_p1l, ↓w_p2, ↓w_p2l, ↓w_p2r, ↓w_eq, ↓w_ne, ↓w_eql, ↓w_nel, ↓w_tup, ↓w_lst, ↓w_lstT, ↓w_frUs0, ↓w_frUs1, ↓w_frUsL, wp_ok, wp_okP, wp_bad, wp_ite, wp_nxt, wp_rdp, wp_frp, wp_some, wp_finp, wp_newU, wp_rdl', wp_setix, wp_setf, wp_updL, wp_guard, kB_ap, kM_ap, kS_nx, kS_rt, kS_bk, kS_ct, kS_ex, kX_ap, kF_rt, kF_nx, kF_ex, oW_s, oW_n, oW_i, prE, bindA, Dfl.w, kCall, kMc2, kNew, truW, tagW, subT, addW, subW, modW, cmpW, ixW, lenW, seqW, isNon, boolsW, MO.frz, fldU, augM, augW, oB, oI, setsL, slW, wp_optI, itemsW, mulW_l', mulW_r', wp_eqI, bnd_nm, bnd_2, bnd_3, bnd_4, wipeL, ix20, ix21, ix30, ix31, ix32, List.any_cons, List.any_nil, String.reduceBEq, Bool.or_false, Bool.or_true, Bool.false_or, Bool.true_or, Bool.and_false, Bool.and_true, Bool.false_and, Bool.true_and, Bool.not_true, Bool.not_false, beq_self_eq_true, Int.reduceLT, Int.reduceLE, Int.reduceEq, Nat.reduceLT, Nat.reduceLeDiff, Nat.reduceEqDiff, decide_true, decide_false, decide_eq_true_eq, and_self, and_true, true_and, List.map_cons, List.map_nil, List.cons_append, List.nil_append, List.append_nil, List.replicate_succ, List.replicate_zero, List.length_cons, List.length_nil, List.getElem?_cons_zero, List.getElem?_cons_succ, List.set_cons_zero, List.set_cons_succ, Option.bind_some, Option.bind_none, Option.map_some, Option.map_none, Nat.reduceSub, Nat.reduceAdd, Nat.sub_self, Nat.add_zero, Nat.zero_add, ite_true, ite_false, if_true, if_false, Bool.false_eq_true, reduceCtorEq, List.take_length, rcv_join, rcv_split, rcv_find, rcv_index, rcv_indexL, rcv_count, rcv_append, rcv_extend, eqF_pp, g1, is_integer_eq (w := .int y) rfl, isIntB, hm.1, hm.2]
    exact ⟨_, _, rfl⟩
  · rintro τ S' ⟨rfl, a, b, rfl⟩
    try simp -implicitDefEqProofs only [↓w_bind, ↓w_inS, ↓w_inSb, ↓w_inSs, ↓w_cons, ↓wp_nil, ↓wE_var, ↓wE_cst, ↓wE_glob, ↓wE_pr, ↓w_kAnd, ↓w_kOr, ↓wE_and, ↓wE_or, ↓wE_not, ↓w_kNot, ↓w_kIte, ↓wE_ite, ↓wE_chain, ↓w_kCh1, ↓w_kCh2, ↓w_kCh3, ↓wE_chain3, ↓w_kDh1, ↓w_kDh2, ↓w_kDh3, ↓w_kDh4, ↓w_kDh5, ↓wT_chain3, ↓wE_comp, ↓w_kComp0, ↓w_kComp2f, ↓w_kComp2t, ↓wE_call, ↓wE_meth, ↓w_kMe1, ↓w_kMe2, ↓wE_mcall, ↓w_kMc0, ↓w_kMc1, ↓wE_new, ↓wE_fld, ↓wEs_nil, ↓wEs_cons, ↓w_kEs1, ↓w_kEs2, ↓wT_and, ↓wT_or, ↓wT_not, ↓w_kTA, ↓w_kTO, ↓w_kTN, ↓wT_var, ↓wT_cst, ↓wT_pr, ↓wT_chain, ↓wT_call, ↓wT_meth, ↓wT_mcall, ↓wT_fld, ↓wC_nil, ↓wC_cons, ↓w_kC, ↓w_kCf2, ↓w_kCf3, ↓wS_expr, ↓wS_asg, ↓wS_asT, ↓w_kAsT, ↓wS_par, ↓w_kPar, ↓wS_setix, ↓w_kSx1, ↓w_kSx2, ↓w_kSx3, ↓wS_setix2, ↓w_kSy1, ↓w_kSy2, ↓w_kSy3, ↓wS_setf, ↓w_kSf1, ↓w_kSf2, ↓wS_aug, ↓w_kAu, ↓wS_ret, ↓wS_retN, ↓wS_ifs, ↓w_kIf, ↓wS_for, ↓w_kFor, ↓wS_whl, ↓wS_brk, ↓wS_cnt, ↓wS_pass, ↓wS_raise, ↓wS_thru, ↓w_itN, ↓w_itP, ↓w_truU, ↓w_truL, ↓w_p1, ↓w_p1l, ↓w_p2, ↓w_p2l, ↓w_p2r, ↓w_eq, ↓w_ne, ↓w_eql, ↓w_nel, ↓w_tup, ↓w_lst, ↓w_lstT, ↓w_frUs0, ↓w_frUs1, ↓w_frUsL, wp_ok, wp_okP, wp_bad, wp_ite, wp_nxt, wp_rdp, wp_frp, wp_some, wp_finp, wp_newU, wp_rdl', wp_setix, wp_setf, wp_updL, wp_guard, kB_ap, kM_ap, kS_nx, kS_rt, kS_bk, kS_ct, kS_ex, kX_ap, kF_rt, kF_nx, kF_ex, oW_s, oW_n, oW_i, prE, bindA, Dfl.w, kCall, kMc2, kNew, truW, tagW, subT, addW, subW, modW, cmpW, ixW, lenW, seqW, isNon, boolsW, MO.frz, fldU, augM, augW, oB, oI, setsL, slW, wp_optI, itemsW, mulW_l', mulW_r', wp_eqI, bnd_nm, bnd_2, bnd_3, bnd_4, wipeL, ix20, ix21, ix30, ix31, ix32, List.any_cons, List.any_nil, String.reduceBEq, Bool.or_false, Bool.or_true, Bool.false_or, Bool.true_or, Bool.and_false, Bool.and_true, Bool.false_and, Bool.true_and, Bool.not_true, Bool.not_false, beq_self_eq_true, Int.reduceLT, Int.reduceLE, Int.reduceEq, Nat.reduceLT, Nat.reduceLeDiff, Nat.reduceEqDiff, decide_true, decide_false, decide_eq_true_eq, and_self, and_true, true_and, List.map_cons, List.map_nil, List.cons_append, List.nil_append, List.append_nil, List.replicate_succ, List.replicate_zero, List.length_cons, List.length_nil, List.getElem?_cons_zero, List.getElem?_cons_succ, List.set_cons_zero, List.set_cons_succ, Option.bind_some, Option.bind_none, Option.map_some, Option.map_none, Nat.reduceSub, Nat.reduceAdd, Nat.sub_self, Nat.add_zero, Nat.zero_add, ite_true, ite_false, if_true, if_false, Bool.false_eq_true, reduceCtorEq, List.take_length, rcv_join, rcv_split, rcv_find, rcv_index, rcv_indexL, rcv_count, rcv_append, rcv_extend, eqF_pp]
    all_goals try first | rfl | exact ⟨_, rfl⟩ | exact ⟨rfl, take_all rfl⟩ | exact ⟨_, rfl, by simp⟩ | exact ⟨_, _, rfl⟩ | exact ⟨_, _, _, rfl⟩ | exact ⟨_, _, _, _, rfl⟩ | exact ⟨rfl, _, rfl⟩ | exact ⟨rfl, _, _, rfl⟩ | exact ⟨rfl, _, _, _, rfl⟩ | exact ⟨rfl, _, _, _, _, rfl⟩
theorem ring_newG {k : Nat} {n : Int} {ls ws qs : List Int} {pw : W} {S : Sto} {w : Nat} {gl : String → Option W} (h : 2 ≤ n) (h' : n ≤ 12) (hl : Asc 0 (n - 1) ls) (hw : Asc 0 (n - 1) ws) (hc : callM P (k + 2) "checked_prices" [.p (.int n), .p pw] = okP (.tup (iW qs))) :
    newO ⟨callM P (k + 3), gl, w⟩ "Ring" [.p (.int n), .p (.tup (iW ls)), .p (.tup (iW ws)), .p pw] S = .ok (.p (ringW n ls ws (iW qs))) S := by
  have bl := asc_big hl (by omega)
  have bw := asc_big hw (by omega)
  refine ok_of_wp (wp_newO (key := "Ring.__init__") (by decide) ?_)
  refine w_call fn_Ringu_initu rfl ?_
  simp only [b_Ringu_initu]
  have g1 : g.P.glob "MIN_SIZE" = some (.int 2) := rfl
  have g2 : g.P.glob "MAX_SIZE" = some (.int 12) := rfl
  try simp -implicitDefEqProofs only [↓w_bind, ↓w_inS, ↓w_inSb, ↓w_inSs, ↓w_cons, ↓wp_nil, ↓wE_var, ↓wE_cst, ↓wE_glob, ↓wE_pr, ↓w_kAnd, ↓w_kOr, ↓wE_and, ↓wE_or, ↓wE_not, ↓w_kNot, ↓w_kIte, ↓wE_ite, ↓wE_chain, ↓w_kCh1, ↓w_kCh2, ↓w_kCh3, ↓wE_chain3, ↓w_kDh1, ↓w_kDh2, ↓w_kDh3, ↓w_kDh4, ↓w_kDh5, ↓wT_chain3, ↓wE_comp, ↓w_kComp0, ↓w_kComp2f, ↓w_kComp2t, ↓wE_call, ↓wE_meth, ↓w_kMe1, ↓w_kMe2, ↓wE_mcall, ↓w_kMc0, ↓w_kMc1, ↓wE_new, ↓wE_fld, ↓wEs_nil, ↓wEs_cons, ↓w_kEs1, ↓w_kEs2, ↓wT_and, ↓wT_or, ↓wT_not, ↓w_kTA, ↓w_kTO, ↓w_kTN, ↓wT_var, ↓wT_cst, ↓wT_pr, ↓wT_chain, ↓wT_call, ↓wT_meth, ↓wT_mcall, ↓wT_fld, ↓wC_nil, ↓wC_cons, ↓w_kC, ↓w_kCf2, ↓w_kCf3, ↓wS_expr, ↓wS_asg, ↓wS_asT, ↓w_kAsT, ↓wS_par, ↓w_kPar, ↓wS_setix, ↓w_kSx1, ↓w_kSx2, ↓w_kSx3, ↓wS_setix2, ↓w_kSy1, ↓w_kSy2, ↓w_kSy3, ↓wS_setf, ↓w_kSf1, ↓w_kSf2, ↓wS_aug, ↓w_kAu, ↓wS_ret, ↓wS_retN, ↓wS_ifs, ↓w_kIf, ↓wS_for, ↓w_kFor, ↓wS_whl, ↓wS_brk, ↓wS_cnt, ↓wS_pass, ↓wS_raise, ↓wS_thru, ↓w_itN, ↓w_itP, ↓w_truU, ↓w_truL, ↓w_p1, ↓w_p1l, ↓w_p2, ↓w_p2l, ↓w_p2r, ↓w_eq, ↓w_ne, ↓w_eql, ↓w_nel, ↓w_tup, ↓w_lst, ↓w_lstT, ↓w_frUs0, ↓w_frUs1, ↓w_frUsL, wp_ok, wp_okP, wp_bad, wp_ite, wp_nxt, wp_rdp, wp_frp, wp_some, wp_finp, wp_newU, wp_rdl', wp_setix, wp_setf, wp_updL, wp_guard, kB_ap, kM_ap, kS_nx, kS_rt, kS_bk, kS_ct, kS_ex, kX_ap, kF_rt, kF_nx, kF_ex, oW_s, oW_n, oW_i, prE, bindA, Dfl.w, kCall, kMc2, kNew, truW, tagW, subT, addW, subW, modW, cmpW, ixW, lenW, seqW, isNon, boolsW, MO.frz, fldU, augM, augW, oB, oI, setsL, slW, wp_optI, itemsW, mulW_l', mulW_r', wp_eqI, bnd_nm, bnd_2, bnd_3, bnd_4, wipeL, ix20, ix21, ix30, ix31, ix32, List.any_cons, List.any_nil, String.reduceBEq, Bool.or_false, Bool.or_true, Bool.false_or, Bool.true_or, Bool.and_false, Bool.and_true, Bool.false_and, Bool.true_and, Bool.not_true, Bool.not_false, beq_self_eq_true, Int.reduceLT, Int.reduceLE, Int.reduceEq, Nat.reduceLT, Nat.reduceLeDiff, Nat.reduceEqDiff, decide_true, decide_false, decide_eq_true_eq, and_self, and_true, true_and, List.map_cons, List.map_nil, List.cons_append, List.nil_append, List.append_nil, List.replicate_succ, List.replicate_zero, List.length_cons, List.length_nil, List.getElem?_cons_zero, List.getElem?_cons_succ, List.set_cons_zero, List.set_cons_succ, Option.bind_some, Option.bind_none, Option.map_some, Option.map_none, Nat.reduceSub, Nat.reduceAdd, Nat.sub_self, Nat.add_zero, Nat.zero_add, ite_true, ite_false, if_true, if_false, Bool.false_eq_true, reduceCtorEq, List.take_length, rcv_join, rcv_split, rcv_find, rcv_index, rcv_indexL, rcv_count, rcv_append, rcv_extend, eqF_pp, g1, g2, is_integer_eq (w := .int n) rfl, isIntB, h, h', decide_true, is_ascending_eq hl bl, is_ascending_eq hw bw, hc, app_get, app_set, putF, List.length_cons, List.length_nil, app_len, app_take1, app_take]
  have e1 : (Str.ofString "locks" == Str.ofString "size") = false := by decide
  have e2 : (Str.ofString "walls" == Str.ofString "size") = false := by decide
  have e3 : (Str.ofString "walls" == Str.ofString "locks") = false := by decide
  have e4 : (Str.ofString "prices" == Str.ofString "size") = false := by decide
  have e5 : (Str.ofString "prices" == Str.ofString "locks") = false := by decide
  have e6 : (Str.ofString "prices" == Str.ofString "walls") = false := by decide
  simp only [e1, e2, e3, e4, e5, e6, putF, Bool.false_eq_true, if_false, if_true, List.length_cons, List.length_nil, Nat.reduceAdd, Nat.reduceLT]
  exact ⟨_, rfl, rfl⟩
/-- without prices -/
theorem ring_new0 {k : Nat} {n : Int} {ls ws : List Int} {w : Nat} {gl : String → Option W} (h : 2 ≤ n) (h' : n ≤ 12) (hl : Asc 0 (n - 1) ls) (hw : Asc 0 (n - 1) ws) :
    newO ⟨callM P (k + 3), gl, w⟩ "Ring" [.p (.int n), .p (.tup (iW ls)), .p (.tup (iW ws)), .p (.tup [])] = okP (ringW n ls ws (iW (List.replicate n.toNat 1))) := funext fun S => ring_newG h h' hl hw (checked_prices_nil h (by omega))
/-- with all prices -/
theorem ring_newP {k : Nat} {n : Int} {ls ws ps : List Int} {w : Nat} {gl : String → Option W} (h : 2 ≤ n) (h' : n ≤ 12) (hl : Asc 0 (n - 1) ls) (hw : Asc 0 (n - 1) ws) (hpl : (ps.length : Int) = n) (hp : ∀ p ∈ ps, 1 ≤ p ∧ p ≤ 999) :
    newO ⟨callM P (k + 3), gl, w⟩ "Ring" [.p (.int n), .p (.tup (iW ls)), .p (.tup (iW ws)), .p (.tup (iW ps))] = okP (ringW n ls ws (iW ps)) := funext fun S => ring_newG h h' hl hw (checked_prices_all h (by omega) hpl hp)
structure Facts (n : Int) (ls ws ps : List Int) (m : Int) : Prop where
  n2 : 2 ≤ n
  nm : n ≤ m
  ls : Asc 0 (n - 1) ls
  ws : Asc 0 (n - 1) ws
  pl : (ps.length : Int) = n
  ps : ∀ p ∈ ps, 1 ≤ p ∧ p ≤ 999
def factsW (n : Int) (ls ws ps : List Int) : W := .tup [.int n, .tup (iW ls), .tup (iW ws), .tup (iW ps)]
theorem law_facts_wp {k n : Nat} {m : Int} {S : Sto} (hp : PoolAt S n) (h0 : 2 ≤ m) (h1 : m ≤ 12) : Wp (callM P (k + 3) "_law_facts" [.loc n, .p (.int m)]) (fun u S' => ∃ c ls ws ps, u = .p (factsW c ls ws ps) ∧ Facts c ls ws ps m ∧ PoolTo S n S') noE S := by
  refine w_call fn__law_facts rfl ?_
  simp only [b__law_facts]
  have hn := hp.len
  try simp -implicitDefEqProofs only [↓w_bind, ↓w_inS, ↓w_inSb, ↓w_inSs, ↓w_cons, ↓wp_nil, ↓wE_var, ↓wE_cst, ↓wE_glob, ↓wE_pr, ↓w_kAnd, ↓w_kOr, ↓wE_and, ↓wE_or, ↓wE_not, ↓w_kNot, ↓w_kIte, ↓wE_ite, ↓wE_chain, ↓w_kCh1, ↓w_kCh2, ↓w_kCh3, ↓wE_chain3, ↓w_kDh1, ↓w_kDh2, ↓w_kDh3, ↓w_kDh4, ↓w_kDh5, ↓wT_chain3, ↓wE_comp, ↓w_kComp0, ↓w_kComp2f, ↓w_kComp2t, ↓wE_call, ↓wE_meth, ↓w_kMe1, ↓w_kMe2, ↓wE_mcall, ↓w_kMc0, ↓w_kMc1, ↓wE_new, ↓wE_fld, ↓wEs_nil, ↓wEs_cons, ↓w_kEs1, ↓w_kEs2, ↓wT_and, ↓wT_or, ↓wT_not, ↓w_kTA, ↓w_kTO, ↓w_kTN, ↓wT_var, ↓wT_cst, ↓wT_pr, ↓wT_chain, ↓wT_call, ↓wT_meth, ↓wT_mcall, ↓wT_fld, ↓wC_nil, ↓wC_cons, ↓w_kC, ↓w_kCf2, ↓w_kCf3, ↓wS_expr, ↓wS_asg, ↓wS_asT, ↓w_kAsT, ↓wS_par, ↓w_kPar, ↓wS_setix, ↓w_kSx1, ↓w_kSx2, ↓w_kSx3, ↓wS_setix2, ↓w_kSy1, ↓w_kSy2, ↓w_kSy3, ↓wS_setf, ↓w_kSf1, ↓w_kSf2, ↓wS_aug, ↓w_kAu, ↓wS_ret, ↓wS_retN, ↓wS_ifs, ↓w_kIf, ↓wS_for, ↓w_kFor, ↓wS_whl, ↓wS_brk, ↓wS_cnt, ↓wS_pass, ↓wS_raise, ↓wS_thru, ↓w_itN, ↓w_itP, ↓w_truU, ↓w_truL, ↓w_p1, ↓w_p1l, ↓w_p2, ↓w_p2l, ↓w_p2r, ↓w_eq, ↓w_ne, ↓w_eql, ↓w_nel, ↓w_tup, ↓w_lst, ↓w_lstT, ↓w_frUs0, ↓w_frUs1, ↓w_frUsL, wp_ok, wp_okP, wp_bad, wp_ite, wp_nxt, wp_rdp, wp_frp, wp_some, wp_finp, wp_newU, wp_rdl', wp_setix, wp_setf, wp_updL, wp_guard, kB_ap, kM_ap, kS_nx, kS_rt, kS_bk, kS_ct, kS_ex, kX_ap, kF_rt, kF_nx, kF_ex, oW_s, oW_n, oW_i, prE, bindA, Dfl.w, kCall, kMc2, kNew, truW, tagW, subT, addW, subW, modW, cmpW, ixW, lenW, seqW, isNon, boolsW, MO.frz, fldU, augM, augW, oB, oI, setsL, slW, wp_optI, itemsW, mulW_l', mulW_r', wp_eqI, bnd_nm, bnd_2, bnd_3, bnd_4, wipeL, ix20, ix21, ix30, ix31, ix32, List.any_cons, List.any_nil, String.reduceBEq, Bool.or_false, Bool.or_true, Bool.false_or, Bool.true_or, Bool.and_false, Bool.and_true, Bool.false_and, Bool.true_and, Bool.not_true, Bool.not_false, beq_self_eq_true, Int.reduceLT, Int.reduceLE, Int.reduceEq, Nat.reduceLT, Nat.reduceLeDiff, Nat.reduceEqDiff, decide_true, decide_false, decide_eq_true_eq, and_self, and_true, true_and, List.map_cons, List.map_nil, List.cons_append, List.nil_append, List.append_nil, List.replicate_succ, List.replicate_zero, List.length_cons, List.length_nil, List.getElem?_cons_zero, List.getElem?_cons_succ, List.set_cons_zero, List.set_cons_succ, Option.bind_some, Option.bind_none, Option.map_some, Option.map_none, Nat.reduceSub, Nat.reduceAdd, Nat.sub_self, Nat.add_zero, Nat.zero_add, ite_true, ite_false, if_true, if_false, Bool.false_eq_true, reduceCtorEq, List.take_length, rcv_join, rcv_split, rcv_find, rcv_index, rcv_indexL, rcv_count, rcv_append, rcv_extend, eqF_pp]
  refine (law_take_wp hp (by omega) (by omega)).mono (fun u S1 ⟨c, e, c0, c1, p1⟩ => ?_) fun _ _ _ z => z.elim
  subst e
  try simp -implicitDefEqProofs only [↓w_bind, ↓w_inS, ↓w_inSb, ↓w_inSs, ↓w_cons, ↓wp_nil, ↓wE_var, ↓wE_cst, ↓wE_glob, ↓wE_pr, ↓w_kAnd, ↓w_kOr, ↓wE_and, ↓wE_or, ↓wE_not, ↓w_kNot, ↓w_kIte, ↓wE_ite, ↓wE_chain, ↓w_kCh1, ↓w_kCh2, ↓w_kCh3, ↓wE_chain3, ↓w_kDh1, ↓w_kDh2, ↓w_kDh3, ↓w_kDh4, ↓w_kDh5, ↓wT_chain3, ↓wE_comp, ↓w_kComp0, ↓w_kComp2f, ↓w_kComp2t, ↓wE_call, ↓wE_meth, ↓w_kMe1, ↓w_kMe2, ↓wE_mcall, ↓w_kMc0, ↓w_kMc1, ↓wE_new, ↓wE_fld, ↓wEs_nil, ↓wEs_cons, ↓w_kEs1, ↓w_kEs2, ↓wT_and, ↓wT_or, ↓wT_not, ↓w_kTA, ↓w_kTO, ↓w_kTN, ↓wT_var, ↓wT_cst, ↓wT_pr, ↓wT_chain, ↓wT_call, ↓wT_meth, ↓wT_mcall, ↓wT_fld, ↓wC_nil, ↓wC_cons, ↓w_kC, ↓w_kCf2, ↓w_kCf3, ↓wS_expr, ↓wS_asg, ↓wS_asT, ↓w_kAsT, ↓wS_par, ↓w_kPar, ↓wS_setix, ↓w_kSx1, ↓w_kSx2, ↓w_kSx3, ↓wS_setix2, ↓w_kSy1, ↓w_kSy2, ↓w_kSy3, ↓wS_setf, ↓w_kSf1, ↓w_kSf2, ↓wS_aug, ↓w_kAu, ↓wS_ret, ↓wS_retN, ↓wS_ifs, ↓w_kIf, ↓wS_for, ↓w_kFor, ↓wS_whl, ↓wS_brk, ↓wS_cnt, ↓wS_pass, ↓wS_raise, ↓wS_thru, ↓w_itN, ↓w_itP, ↓w_truU, ↓w_truL, ↓w_p1, ↓w_p1l, ↓w_p2, ↓w_p2l, ↓w_p2r, ↓w_eq, ↓w_ne, ↓w_eql, ↓w_nel, ↓w_tup, ↓w_lst, ↓w_lstT, ↓w_frUs0, ↓w_frUs1, ↓w_frUsL, wp_ok, wp_okP, wp_bad, wp_ite, wp_nxt, wp_rdp, wp_frp, wp_some, wp_finp, wp_newU, wp_rdl', wp_setix, wp_setf, wp_updL, wp_guard, kB_ap, kM_ap, kS_nx, kS_rt, kS_bk, kS_ct, kS_ex, kX_ap, kF_rt, kF_nx, kF_ex, oW_s, oW_n, oW_i, prE, bindA, Dfl.w, kCall, kMc2, kNew, truW, tagW, subT, addW, subW, modW, cmpW, ixW, lenW, seqW, isNon, boolsW, MO.frz, fldU, augM, augW, oB, oI, setsL, slW, wp_optI, itemsW, mulW_l', mulW_r', wp_eqI, bnd_nm, bnd_2, bnd_3, bnd_4, wipeL, ix20, ix21, ix30, ix31, ix32, List.any_cons, List.any_nil, String.reduceBEq, Bool.or_false, Bool.or_true, Bool.false_or, Bool.true_or, Bool.and_false, Bool.and_true, Bool.false_and, Bool.true_and, Bool.not_true, Bool.not_false, beq_self_eq_true, Int.reduceLT, Int.reduceLE, Int.reduceEq, Nat.reduceLT, Nat.reduceLeDiff, Nat.reduceEqDiff, decide_true, decide_false, decide_eq_true_eq, and_self, and_true, true_and, List.map_cons, List.map_nil, List.cons_append, List.nil_append, List.append_nil, List.replicate_succ, List.replicate_zero, List.length_cons, List.length_nil, List.getElem?_cons_zero, List.getElem?_cons_succ, List.set_cons_zero, List.set_cons_succ, Option.bind_some, Option.bind_none, Option.map_some, Option.map_none, Nat.reduceSub, Nat.reduceAdd, Nat.sub_self, Nat.add_zero, Nat.zero_add, ite_true, ite_false, if_true, if_false, Bool.false_eq_true, reduceCtorEq, List.take_length, rcv_join, rcv_split, rcv_find, rcv_index, rcv_indexL, rcv_count, rcv_append, rcv_extend, eqF_pp]
  refine (law_some_wp (p1.at_ hn) (by omega) (by omega)).mono (fun u S2 ⟨ls, e, hls, p2⟩ => ?_) fun _ _ _ z => z.elim
  subst e
  try simp -implicitDefEqProofs only [↓w_bind, ↓w_inS, ↓w_inSb, ↓w_inSs, ↓w_cons, ↓wp_nil, ↓wE_var, ↓wE_cst, ↓wE_glob, ↓wE_pr, ↓w_kAnd, ↓w_kOr, ↓wE_and, ↓wE_or, ↓wE_not, ↓w_kNot, ↓w_kIte, ↓wE_ite, ↓wE_chain, ↓w_kCh1, ↓w_kCh2, ↓w_kCh3, ↓wE_chain3, ↓w_kDh1, ↓w_kDh2, ↓w_kDh3, ↓w_kDh4, ↓w_kDh5, ↓wT_chain3, ↓wE_comp, ↓w_kComp0, ↓w_kComp2f, ↓w_kComp2t, ↓wE_call, ↓wE_meth, ↓w_kMe1, ↓w_kMe2, ↓wE_mcall, ↓w_kMc0, ↓w_kMc1, ↓wE_new, ↓wE_fld, ↓wEs_nil, ↓wEs_cons, ↓w_kEs1, ↓w_kEs2, ↓wT_and, ↓wT_or, ↓wT_not, ↓w_kTA, ↓w_kTO, ↓w_kTN, ↓wT_var, ↓wT_cst, ↓wT_pr, ↓wT_chain, ↓wT_call, ↓wT_meth, ↓wT_mcall, ↓wT_fld, ↓wC_nil, ↓wC_cons, ↓w_kC, ↓w_kCf2, ↓w_kCf3, ↓wS_expr, ↓wS_asg, ↓wS_asT, ↓w_kAsT, ↓wS_par, ↓w_kPar, ↓wS_setix, ↓w_kSx1, ↓w_kSx2, ↓w_kSx3, ↓wS_setix2, ↓w_kSy1, ↓w_kSy2, ↓w_kSy3, ↓wS_setf, ↓w_kSf1, ↓w_kSf2, ↓wS_aug, ↓w_kAu, ↓wS_ret, ↓wS_retN, ↓wS_ifs, ↓w_kIf, ↓wS_for, ↓w_kFor, ↓wS_whl, ↓wS_brk, ↓wS_cnt, ↓wS_pass, ↓wS_raise, ↓wS_thru, ↓w_itN, ↓w_itP, ↓w_truU, ↓w_truL, ↓w_p1, ↓w_p1l, ↓w_p2, ↓w_p2l, ↓w_p2r, ↓w_eq, ↓w_ne, ↓w_eql, ↓w_nel, ↓w_tup, ↓w_lst, ↓w_lstT, ↓w_frUs0, ↓w_frUs1, ↓w_frUsL, wp_ok, wp_okP, wp_bad, wp_ite, wp_nxt, wp_rdp, wp_frp, wp_some, wp_finp, wp_newU, wp_rdl', wp_setix, wp_setf, wp_updL, wp_guard, kB_ap, kM_ap, kS_nx, kS_rt, kS_bk, kS_ct, kS_ex, kX_ap, kF_rt, kF_nx, kF_ex, oW_s, oW_n, oW_i, prE, bindA, Dfl.w, kCall, kMc2, kNew, truW, tagW, subT, addW, subW, modW, cmpW, ixW, lenW, seqW, isNon, boolsW, MO.frz, fldU, augM, augW, oB, oI, setsL, slW, wp_optI, itemsW, mulW_l', mulW_r', wp_eqI, bnd_nm, bnd_2, bnd_3, bnd_4, wipeL, ix20, ix21, ix30, ix31, ix32, List.any_cons, List.any_nil, String.reduceBEq, Bool.or_false, Bool.or_true, Bool.false_or, Bool.true_or, Bool.and_false, Bool.and_true, Bool.false_and, Bool.true_and, Bool.not_true, Bool.not_false, beq_self_eq_true, Int.reduceLT, Int.reduceLE, Int.reduceEq, Nat.reduceLT, Nat.reduceLeDiff, Nat.reduceEqDiff, decide_true, decide_false, decide_eq_true_eq, and_self, and_true, true_and, List.map_cons, List.map_nil, List.cons_append, List.nil_append, List.append_nil, List.replicate_succ, List.replicate_zero, List.length_cons, List.length_nil, List.getElem?_cons_zero, List.getElem?_cons_succ, List.set_cons_zero, List.set_cons_succ, Option.bind_some, Option.bind_none, Option.map_some, Option.map_none, Nat.reduceSub, Nat.reduceAdd, Nat.sub_self, Nat.add_zero, Nat.zero_add, ite_true, ite_false, if_true, if_false, Bool.false_eq_true, reduceCtorEq, List.take_length, rcv_join, rcv_split, rcv_find, rcv_index, rcv_indexL, rcv_count, rcv_append, rcv_extend, eqF_pp]
  have p2' := p1.trans p2
  refine (law_some_wp (p2'.at_ hn) (by omega) (by omega)).mono (fun u S3 ⟨ws, e, hws, p3⟩ => ?_) fun _ _ _ z => z.elim
  subst e
  try simp -implicitDefEqProofs only [↓w_bind, ↓w_inS, ↓w_inSb, ↓w_inSs, ↓w_cons, ↓wp_nil, ↓wE_var, ↓wE_cst, ↓wE_glob, ↓wE_pr, ↓w_kAnd, ↓w_kOr, ↓wE_and, ↓wE_or, ↓wE_not, ↓w_kNot, ↓w_kIte, ↓wE_ite, ↓wE_chain, ↓w_kCh1, ↓w_kCh2, ↓w_kCh3, ↓wE_chain3, ↓w_kDh1, ↓w_kDh2, ↓w_kDh3, ↓w_kDh4, ↓w_kDh5, ↓wT_chain3, ↓wE_comp, ↓w_kComp0, ↓w_kComp2f, ↓w_kComp2t, ↓wE_call, ↓wE_meth, ↓w_kMe1, ↓w_kMe2, ↓wE_mcall, ↓w_kMc0, ↓w_kMc1, ↓wE_new, ↓wE_fld, ↓wEs_nil, ↓wEs_cons, ↓w_kEs1, ↓w_kEs2, ↓wT_and, ↓wT_or, ↓wT_not, ↓w_kTA, ↓w_kTO, ↓w_kTN, ↓wT_var, ↓wT_cst, ↓wT_pr, ↓wT_chain, ↓wT_call, ↓wT_meth, ↓wT_mcall, ↓wT_fld, ↓wC_nil, ↓wC_cons, ↓w_kC, ↓w_kCf2, ↓w_kCf3, ↓wS_expr, ↓wS_asg, ↓wS_asT, ↓w_kAsT, ↓wS_par, ↓w_kPar, ↓wS_setix, ↓w_kSx1, ↓w_kSx2, ↓w_kSx3, ↓wS_setix2, ↓w_kSy1, ↓w_kSy2, ↓w_kSy3, ↓wS_setf, ↓w_kSf1, ↓w_kSf2, ↓wS_aug, ↓w_kAu, ↓wS_ret, ↓wS_retN, ↓wS_ifs, ↓w_kIf, ↓wS_for, ↓w_kFor, ↓wS_whl, ↓wS_brk, ↓wS_cnt, ↓wS_pass, ↓wS_raise, ↓wS_thru, ↓w_itN, ↓w_itP, ↓w_truU, ↓w_truL, ↓w_p1, ↓w_p1l, ↓w_p2, ↓w_p2l, ↓w_p2r, ↓w_eq, ↓w_ne, ↓w_eql, ↓w_nel, ↓w_tup, ↓w_lst, ↓w_lstT, ↓w_frUs0, ↓w_frUs1, ↓w_frUsL, wp_ok, wp_okP, wp_bad, wp_ite, wp_nxt, wp_rdp, wp_frp, wp_some, wp_finp, wp_newU, wp_rdl', wp_setix, wp_setf, wp_updL, wp_guard, kB_ap, kM_ap, kS_nx, kS_rt, kS_bk, kS_ct, kS_ex, kX_ap, kF_rt, kF_nx, kF_ex, oW_s, oW_n, oW_i, prE, bindA, Dfl.w, kCall, kMc2, kNew, truW, tagW, subT, addW, subW, modW, cmpW, ixW, lenW, seqW, isNon, boolsW, MO.frz, fldU, augM, augW, oB, oI, setsL, slW, wp_optI, itemsW, mulW_l', mulW_r', wp_eqI, bnd_nm, bnd_2, bnd_3, bnd_4, wipeL, ix20, ix21, ix30, ix31, ix32, List.any_cons, List.any_nil, String.reduceBEq, Bool.or_false, Bool.or_true, Bool.false_or, Bool.true_or, Bool.and_false, Bool.and_true, Bool.false_and, Bool.true_and, Bool.not_true, Bool.not_false, beq_self_eq_true, Int.reduceLT, Int.reduceLE, Int.reduceEq, Nat.reduceLT, Nat.reduceLeDiff, Nat.reduceEqDiff, decide_true, decide_false, decide_eq_true_eq, and_self, and_true, true_and, List.map_cons, List.map_nil, List.cons_append, List.nil_append, List.append_nil, List.replicate_succ, List.replicate_zero, List.length_cons, List.length_nil, List.getElem?_cons_zero, List.getElem?_cons_succ, List.set_cons_zero, List.set_cons_succ, Option.bind_some, Option.bind_none, Option.map_some, Option.map_none, Nat.reduceSub, Nat.reduceAdd, Nat.sub_self, Nat.add_zero, Nat.zero_add, ite_true, ite_false, if_true, if_false, Bool.false_eq_true, reduceCtorEq, List.take_length, rcv_join, rcv_split, rcv_find, rcv_index, rcv_indexL, rcv_count, rcv_append, rcv_extend, eqF_pp]
  have p3' := p2'.trans p3
  refine (law_take_wp (p3'.at_ hn) (by decide) (by decide)).mono (fun u S4 ⟨t, e, t0, t1, p4⟩ => ?_) fun _ _ _ z => z.elim
  subst e
  have p4' := p3'.trans p4
  have hm : line62 (2 + c) = true := by simp [line62]; omega
  have key : ∀ top : Int, 1 ≤ top → top ≤ 999 → ∀ (S5 : Sto), PoolTo S n S5 → Wp (compL (compF { call := callM P (k + 2), glob := P.glob, wh := P.wh } [(Str.ofString "_law_spot", 6)] (.nm 6) [] (.pr .add [.cst (.int 1), .call "_law_take" [.inl 0, .inl 1] [.var 0, .var 3]]) [some (.loc n), some (.p (.int m)), some (.p (.int (2 + c))), some (.p (.int top)), some (.p (.tup (iW ls))), some (.p (.tup (iW ws))), none]) (rng 0 (2 + c)))
      (fun ys S' => PoolTo S n S' ∧ ∃ ps : List Int, ys = iW ps ∧ ps.length = (rng 0 (2 + c)).length ∧ ∀ p ∈ ps, 1 ≤ p ∧ p ≤ 999) noE S5 := by
    intro top g1 g2 S5 p5
    refine wp_compL2 (I := fun S' => PoolTo S n S') (Y := fun _ y => ∃ i : Int, y = .int i ∧ 1 ≤ i ∧ i ≤ 999) p5 (fun w hw S6 p6 => ?_) fun ys S6 p6 a => ⟨p6, all2_ints a⟩
    (rw [w_compF rfl]); try simp -implicitDefEqProofs only [↓w_bind, ↓w_inS, ↓w_inSb, ↓w_inSs, ↓w_cons, ↓wp_nil, ↓wE_var, ↓wE_cst, ↓wE_glob, ↓wE_pr, ↓w_kAnd, ↓w_kOr, ↓wE_and, ↓wE_or, ↓wE_not, ↓w_kNot, ↓w_kIte, ↓wE_ite, ↓wE_chain, ↓w_kCh1, ↓w_kCh2, ↓w_kCh3, ↓wE_chain3, ↓w_kDh1, ↓w_kDh2, ↓w_kDh3, ↓w_kDh4, ↓w_kDh5, ↓wT_chain3, ↓wE_comp, ↓w_kComp0, ↓w_kComp2f, ↓w_kComp2t, ↓wE_call, ↓wE_meth, ↓w_kMe1, ↓w_kMe2, ↓wE_mcall, ↓w_kMc0, ↓w_kMc1, ↓wE_new, ↓wE_fld, ↓wEs_nil, ↓wEs_cons, ↓w_kEs1, ↓w_kEs2, ↓wT_and, ↓wT_or, ↓wT_not, ↓w_kTA, ↓w_kTO, ↓w_kTN, ↓wT_var, ↓wT_cst, ↓wT_pr, ↓wT_chain, ↓wT_call, ↓wT_meth, ↓wT_mcall, ↓wT_fld, ↓wC_nil, ↓wC_cons, ↓w_kC, ↓w_kCf2, ↓w_kCf3, ↓wS_expr, ↓wS_asg, ↓wS_asT, ↓w_kAsT, ↓wS_par, ↓w_kPar, ↓wS_setix, ↓w_kSx1, ↓w_kSx2, ↓w_kSx3, ↓wS_setix2, ↓w_kSy1, ↓w_kSy2, ↓w_kSy3, ↓wS_setf, ↓w_kSf1, ↓w_kSf2, ↓wS_aug, ↓w_kAu, ↓wS_ret, ↓wS_retN, ↓wS_ifs, ↓w_kIf, ↓wS_for, ↓w_kFor, ↓wS_whl, ↓wS_brk, ↓wS_cnt, ↓wS_pass, ↓wS_raise, ↓wS_thru, ↓w_itN, ↓w_itP, ↓w_truU, ↓w_truL, ↓w_p1, ↓w_p1l, ↓w_p2, ↓w_p2l, ↓w_p2r, ↓w_eq, ↓w_ne, ↓w_eql, ↓w_nel, ↓w_tup, ↓w_lst, ↓w_lstT, ↓w_frUs0, ↓w_frUs1, ↓w_frUsL, wp_ok, wp_okP, wp_bad, wp_ite, wp_nxt, wp_rdp, wp_frp, wp_some, wp_finp, wp_newU, wp_rdl', wp_setix, wp_setf, wp_updL, wp_guard, kB_ap, kM_ap, kS_nx, kS_rt, kS_bk, kS_ct, kS_ex, kX_ap, kF_rt, kF_nx, kF_ex, oW_s, oW_n, oW_i, prE, bindA, Dfl.w, kCall, kMc2, kNew, truW, tagW, subT, addW, subW, modW, cmpW, ixW, lenW, seqW, isNon, boolsW, MO.frz, fldU, augM, augW, oB, oI, setsL, slW, wp_optI, itemsW, mulW_l', mulW_r', wp_eqI, bnd_nm, bnd_2, bnd_3, bnd_4, wipeL, ix20, ix21, ix30, ix31, ix32, List.any_cons, List.any_nil, String.reduceBEq, Bool.or_false, Bool.or_true, Bool.false_or, Bool.true_or, Bool.and_false, Bool.and_true, Bool.false_and, Bool.true_and, Bool.not_true, Bool.not_false, beq_self_eq_true, Int.reduceLT, Int.reduceLE, Int.reduceEq, Nat.reduceLT, Nat.reduceLeDiff, Nat.reduceEqDiff, decide_true, decide_false, decide_eq_true_eq, and_self, and_true, true_and, List.map_cons, List.map_nil, List.cons_append, List.nil_append, List.append_nil, List.replicate_succ, List.replicate_zero, List.length_cons, List.length_nil, List.getElem?_cons_zero, List.getElem?_cons_succ, List.set_cons_zero, List.set_cons_succ, Option.bind_some, Option.bind_none, Option.map_some, Option.map_none, Nat.reduceSub, Nat.reduceAdd, Nat.sub_self, Nat.add_zero, Nat.zero_add, ite_true, ite_false, if_true, if_false, Bool.false_eq_true, reduceCtorEq, List.take_length, rcv_join, rcv_split, rcv_find, rcv_index, rcv_indexL, rcv_count, rcv_append, rcv_extend, eqF_pp]
    refine (law_take_wp (p6.at_ hn) (by omega) (by omega)).mono (fun u S7 ⟨r, e, r0, r1, p7⟩ => ?_) fun _ _ _ z => z.elim
    subst e
    try simp -implicitDefEqProofs only [↓w_bind, ↓w_inS, ↓w_inSb, ↓w_inSs, ↓w_cons, ↓wp_nil, ↓wE_var, ↓wE_cst, ↓wE_glob, ↓wE_pr, ↓w_kAnd, ↓w_kOr, ↓wE_and, ↓wE_or, ↓wE_not, ↓w_kNot, ↓w_kIte, ↓wE_ite, ↓wE_chain, ↓w_kCh1, ↓w_kCh2, ↓w_kCh3, ↓wE_chain3, ↓w_kDh1, ↓w_kDh2, ↓w_kDh3, ↓w_kDh4, ↓w_kDh5, ↓wT_chain3, ↓wE_comp, ↓w_kComp0, ↓w_kComp2f, ↓w_kComp2t, ↓wE_call, ↓wE_meth, ↓w_kMe1, ↓w_kMe2, ↓wE_mcall, ↓w_kMc0, ↓w_kMc1, ↓wE_new, ↓wE_fld, ↓wEs_nil, ↓wEs_cons, ↓w_kEs1, ↓w_kEs2, ↓wT_and, ↓wT_or, ↓wT_not, ↓w_kTA, ↓w_kTO, ↓w_kTN, ↓wT_var, ↓wT_cst, ↓wT_pr, ↓wT_chain, ↓wT_call, ↓wT_meth, ↓wT_mcall, ↓wT_fld, ↓wC_nil, ↓wC_cons, ↓w_kC, ↓w_kCf2, ↓w_kCf3, ↓wS_expr, ↓wS_asg, ↓wS_asT, ↓w_kAsT, ↓wS_par, ↓w_kPar, ↓wS_setix, ↓w_kSx1, ↓w_kSx2, ↓w_kSx3, ↓wS_setix2, ↓w_kSy1, ↓w_kSy2, ↓w_kSy3, ↓wS_setf, ↓w_kSf1, ↓w_kSf2, ↓wS_aug, ↓w_kAu, ↓wS_ret, ↓wS_retN, ↓wS_ifs, ↓w_kIf, ↓wS_for, ↓w_kFor, ↓wS_whl, ↓wS_brk, ↓wS_cnt, ↓wS_pass, ↓wS_raise, ↓wS_thru, ↓w_itN, ↓w_itP, ↓w_truU, ↓w_truL, ↓w_p1, ↓w_p1l, ↓w_p2, ↓w_p2l, ↓w_p2r, ↓w_eq, ↓w_ne, ↓w_eql, ↓w_nel, ↓w_tup, ↓w_lst, ↓w_lstT, ↓w_frUs0, ↓w_frUs1, ↓w_frUsL, wp_ok, wp_okP, wp_bad, wp_ite, wp_nxt, wp_rdp, wp_frp, wp_some, wp_finp, wp_newU, wp_rdl', wp_setix, wp_setf, wp_updL, wp_guard, kB_ap, kM_ap, kS_nx, kS_rt, kS_bk, kS_ct, kS_ex, kX_ap, kF_rt, kF_nx, kF_ex, oW_s, oW_n, oW_i, prE, bindA, Dfl.w, kCall, kMc2, kNew, truW, tagW, subT, addW, subW, modW, cmpW, ixW, lenW, seqW, isNon, boolsW, MO.frz, fldU, augM, augW, oB, oI, setsL, slW, wp_optI, itemsW, mulW_l', mulW_r', wp_eqI, bnd_nm, bnd_2, bnd_3, bnd_4, wipeL, ix20, ix21, ix30, ix31, ix32, List.any_cons, List.any_nil, String.reduceBEq, Bool.or_false, Bool.or_true, Bool.false_or, Bool.true_or, Bool.and_false, Bool.and_true, Bool.false_and, Bool.true_and, Bool.not_true, Bool.not_false, beq_self_eq_true, Int.reduceLT, Int.reduceLE, Int.reduceEq, Nat.reduceLT, Nat.reduceLeDiff, Nat.reduceEqDiff, decide_true, decide_false, decide_eq_true_eq, and_self, and_true, true_and, List.map_cons, List.map_nil, List.cons_append, List.nil_append, List.append_nil, List.replicate_succ, List.replicate_zero, List.length_cons, List.length_nil, List.getElem?_cons_zero, List.getElem?_cons_succ, List.set_cons_zero, List.set_cons_succ, Option.bind_some, Option.bind_none, Option.map_some, Option.map_none, Nat.reduceSub, Nat.reduceAdd, Nat.sub_self, Nat.add_zero, Nat.zero_add, ite_true, ite_false, if_true, if_false, Bool.false_eq_true, reduceCtorEq, List.take_length, rcv_join, rcv_split, rcv_find, rcv_index, rcv_indexL, rcv_count, rcv_append, rcv_extend, eqF_pp]
    exact ⟨p6.trans p7, _, rfl, _, rfl, by omega, by omega⟩
  have fin : ∀ (ps : List Int) (S6 : Sto), PoolTo S n S6 → ps.length = (rng 0 (2 + c)).length → (∀ p ∈ ps, 1 ≤ p ∧ p ≤ 999) → ∃ c' ls' ws' ps', U.p (.tup [.int (2 + c), .tup (iW ls), .tup (iW ws), .tup (iW ps)]) = .p (factsW c' ls' ws' ps') ∧ Facts c' ls' ws' ps' m ∧ PoolTo S n (S6.take S.length) := by
    intro ps S6 p6 l6 a6
    rw [take_all p6.len.symm]
    exact ⟨_, _, _, _, rfl, ⟨by omega, by omega, hls, hws, by rw [l6]; simp [rng]; omega, a6⟩, p6⟩
  have ht : t = 0 ∨ t = 1 ∨ t = 2 := by omega
  rcases ht with rfl | rfl | rfl
  all_goals try simp -implicitDefEqProofs only [↓w_bind, ↓w_inS, ↓w_inSb, ↓w_inSs, ↓w_cons, ↓wp_nil, ↓wE_var, ↓wE_cst, ↓wE_glob, ↓wE_pr, ↓w_kAnd, ↓w_kOr, ↓wE_and, ↓wE_or, ↓wE_not, ↓w_kNot, ↓w_kIte, ↓wE_ite, ↓wE_chain, ↓w_kCh1, ↓w_kCh2, ↓w_kCh3, ↓wE_chain3, ↓w_kDh1, ↓w_kDh2, ↓w_kDh3, ↓w_kDh4, ↓w_kDh5, ↓wT_chain3, ↓wE_comp, ↓w_kComp0, ↓w_kComp2f, ↓w_kComp2t, ↓wE_call, ↓wE_meth, ↓w_kMe1, ↓w_kMe2, ↓wE_mcall, ↓w_kMc0, ↓w_kMc1, ↓wE_new, ↓wE_fld, ↓wEs_nil, ↓wEs_cons, ↓w_kEs1, ↓w_kEs2, ↓wT_and, ↓wT_or, ↓wT_not, ↓w_kTA, ↓w_kTO, ↓w_kTN, ↓wT_var, ↓wT_cst, ↓wT_pr, ↓wT_chain, ↓wT_call, ↓wT_meth, ↓wT_mcall, ↓wT_fld, ↓wC_nil, ↓wC_cons, ↓w_kC, ↓w_kCf2, ↓w_kCf3, ↓wS_expr, ↓wS_asg, ↓wS_asT, ↓w_kAsT, ↓wS_par, ↓w_kPar, ↓wS_setix, ↓w_kSx1, ↓w_kSx2, ↓w_kSx3, ↓wS_setix2, ↓w_kSy1, ↓w_kSy2, ↓w_kSy3, ↓wS_setf, ↓w_kSf1, ↓w_kSf2, ↓wS_aug, ↓w_kAu, ↓wS_ret, ↓wS_retN, ↓wS_ifs, ↓w_kIf, ↓wS_for, ↓w_kFor, ↓wS_whl, ↓wS_brk, ↓wS_cnt, ↓wS_pass, ↓wS_raise, ↓wS_thru, ↓w_itN, ↓w_itP, ↓w_truU, ↓w_truL, ↓w_p1, ↓w_p1l, ↓w_p2, ↓w_p2l, ↓w_p2r, ↓w_eq, ↓w_ne, ↓w_eql, ↓w_nel, ↓w_tup, ↓w_lst, ↓w_lstT, ↓w_frUs0, ↓w_frUs1, ↓w_frUsL, wp_ok, wp_okP, wp_bad, wp_ite, wp_nxt, wp_rdp, wp_frp, wp_some, wp_finp, wp_newU, wp_rdl', wp_setix, wp_setf, wp_updL, wp_guard, kB_ap, kM_ap, kS_nx, kS_rt, kS_bk, kS_ct, kS_ex, kX_ap, kF_rt, kF_nx, kF_ex, oW_s, oW_n, oW_i, prE, bindA, Dfl.w, kCall, kMc2, kNew, truW, tagW, subT, addW, subW, modW, cmpW, ixW, lenW, seqW, isNon, boolsW, MO.frz, fldU, augM, augW, oB, oI, setsL, slW, wp_optI, itemsW, mulW_l', mulW_r', wp_eqI, bnd_nm, bnd_2, bnd_3, bnd_4, wipeL, ix20, ix21, ix30, ix31, ix32, List.any_cons, List.any_nil, String.reduceBEq, Bool.or_false, Bool.or_true, Bool.false_or, Bool.true_or, Bool.and_false, Bool.and_true, Bool.false_and, Bool.true_and, Bool.not_true, Bool.not_false, beq_self_eq_true, Int.reduceLT, Int.reduceLE, Int.reduceEq, Nat.reduceLT, Nat.reduceLeDiff, Nat.reduceEqDiff, decide_true, decide_false, decide_eq_true_eq, and_self, and_true, true_and, List.map_cons, List.map_nil, List.cons_append, List.nil_append, List.append_nil, List.replicate_succ, List.replicate_zero, List.length_cons, List.length_nil, List.getElem?_cons_zero, List.getElem?_cons_succ, List.set_cons_zero, List.set_cons_succ, Option.bind_some, Option.bind_none, Option.map_some, Option.map_none, Nat.reduceSub, Nat.reduceAdd, Nat.sub_self, Nat.add_zero, Nat.zero_add, ite_true, ite_false, if_true, if_false, Bool.false_eq_true, reduceCtorEq, List.take_length, rcv_join, rcv_split, rcv_find, rcv_index, rcv_indexL, rcv_count, rcv_append, rcv_extend, eqF_pp, hm]
  all_goals refine ⟨by simp [rng, bigLine]; omega, ?_⟩
  all_goals refine (key _ (by decide) (by decide) _ p4').mono (fun ys S6 ⟨p6, ps, e, l6, a6⟩ => ?_) fun _ _ _ z => z.elim
  all_goals subst e
  all_goals try simp -implicitDefEqProofs only [↓w_bind, ↓w_inS, ↓w_inSb, ↓w_inSs, ↓w_cons, ↓wp_nil, ↓wE_var, ↓wE_cst, ↓wE_glob, ↓wE_pr, ↓w_kAnd, ↓w_kOr, ↓wE_and, ↓wE_or, ↓wE_not, ↓w_kNot, ↓w_kIte, ↓wE_ite, ↓wE_chain, ↓w_kCh1, ↓w_kCh2, ↓w_kCh3, ↓wE_chain3, ↓w_kDh1, ↓w_kDh2, ↓w_kDh3, ↓w_kDh4, ↓w_kDh5, ↓wT_chain3, ↓wE_comp, ↓w_kComp0, ↓w_kComp2f, ↓w_kComp2t, ↓wE_call, ↓wE_meth, ↓w_kMe1, ↓w_kMe2, ↓wE_mcall, ↓w_kMc0, ↓w_kMc1, ↓wE_new, ↓wE_fld, ↓wEs_nil, ↓wEs_cons, ↓w_kEs1, ↓w_kEs2, ↓wT_and, ↓wT_or, ↓wT_not, ↓w_kTA, ↓w_kTO, ↓w_kTN, ↓wT_var, ↓wT_cst, ↓wT_pr, ↓wT_chain, ↓wT_call, ↓wT_meth, ↓wT_mcall, ↓wT_fld, ↓wC_nil, ↓wC_cons, ↓w_kC, ↓w_kCf2, ↓w_kCf3, ↓wS_expr, ↓wS_asg, ↓wS_asT, ↓w_kAsT, ↓wS_par, ↓w_kPar, ↓wS_setix, ↓w_kSx1, ↓w_kSx2, ↓w_kSx3, ↓wS_setix2, ↓w_kSy1, ↓w_kSy2, ↓w_kSy3, ↓wS_setf, ↓w_kSf1, ↓w_kSf2, ↓wS_aug, ↓w_kAu, ↓wS_ret, ↓wS_retN, ↓wS_ifs, ↓w_kIf, ↓wS_for, ↓w_kFor, ↓wS_whl, ↓wS_brk, ↓wS_cnt, ↓wS_pass, ↓wS_raise, ↓wS_thru, ↓w_itN, ↓w_itP, ↓w_truU, ↓w_truL, ↓w_p1, ↓w_p1l, ↓w_p2, ↓w_p2l, ↓w_p2r, ↓w_eq, ↓w_ne, ↓w_eql, ↓w_nel, ↓w_tup, ↓w_lst, ↓w_lstT, ↓w_frUs0, ↓w_frUs1, ↓w_frUsL, wp_ok, wp_okP, wp_bad, wp_ite, wp_nxt, wp_rdp, wp_frp, wp_some, wp_finp, wp_newU, wp_rdl', wp_setix, wp_setf, wp_updL, wp_guard, kB_ap, kM_ap, kS_nx, kS_rt, kS_bk, kS_ct, kS_ex, kX_ap, kF_rt, kF_nx, kF_ex, oW_s, oW_n, oW_i, prE, bindA, Dfl.w, kCall, kMc2, kNew, truW, tagW, subT, addW, subW, modW, cmpW, ixW, lenW, seqW, isNon, boolsW, MO.frz, fldU, augM, augW, oB, oI, setsL, slW, wp_optI, itemsW, mulW_l', mulW_r', wp_eqI, bnd_nm, bnd_2, bnd_3, bnd_4, wipeL, ix20, ix21, ix30, ix31, ix32, List.any_cons, List.any_nil, String.reduceBEq, Bool.or_false, Bool.or_true, Bool.false_or, Bool.true_or, Bool.and_false, Bool.and_true, Bool.false_and, Bool.true_and, Bool.not_true, Bool.not_false, beq_self_eq_true, Int.reduceLT, Int.reduceLE, Int.reduceEq, Nat.reduceLT, Nat.reduceLeDiff, Nat.reduceEqDiff, decide_true, decide_false, decide_eq_true_eq, and_self, and_true, true_and, List.map_cons, List.map_nil, List.cons_append, List.nil_append, List.append_nil, List.replicate_succ, List.replicate_zero, List.length_cons, List.length_nil, List.getElem?_cons_zero, List.getElem?_cons_succ, List.set_cons_zero, List.set_cons_succ, Option.bind_some, Option.bind_none, Option.map_some, Option.map_none, Nat.reduceSub, Nat.reduceAdd, Nat.sub_self, Nat.add_zero, Nat.zero_add, ite_true, ite_false, if_true, if_false, Bool.false_eq_true, reduceCtorEq, List.take_length, rcv_join, rcv_split, rcv_find, rcv_index, rcv_indexL, rcv_count, rcv_append, rcv_extend, eqF_pp]
  all_goals exact fin ps S6 p6 l6 a6
/-- the line of a ring -/
def ringL (n : Int) (ls ws ps : List Int) : List Str := [Str.ofString "ring", sI n, Str.ofString "locks"] ++ ls.map sI ++ [Str.ofString "walls"] ++ ws.map sI ++ [Str.ofString "prices"] ++ ps.map sI
def ringS (n : Int) (ls ws ps : List Int) : Str := Txt.join (Str.ofString " ") (ringL n ls ws ps)
def reprS (n : Int) : Str := Str.ofString "Ring(" ++ sI n ++ Str.ofString ")"
theorem shI_small {i : Int} (h : 0 ≤ i) (h2 : i ≤ 1000000) : shI i := by
  have : i.natAbs ≤ 1000000 := by omega
  exact Nat.lt_of_le_of_lt this (by decide +kernel)
structure RF (n : Int) (ls ws ps : List Int) : Prop where
  n2 : 2 ≤ n
  n12 : n ≤ 12
  ls : Asc 0 (n - 1) ls
  ws : Asc 0 (n - 1) ws
  pl : (ps.length : Int) = n
  ps : ∀ p ∈ ps, 1 ≤ p ∧ p ≤ 999
theorem RF.sn {n : Int} {ls ws ps : List Int} (f : RF n ls ws ps) : shI n := shI_small (by have := f.n2; omega) (by have := f.n12; omega)
theorem RF.sl {n : Int} {ls ws ps : List Int} (f : RF n ls ws ps) : ∀ i ∈ ls, shI i := fun i hi => shI_small (f.ls.mem hi).1 (by have := (f.ls.mem hi).2; have := f.n12; omega)
theorem RF.sw {n : Int} {ls ws ps : List Int} (f : RF n ls ws ps) : ∀ i ∈ ws, shI i := fun i hi => shI_small (f.ws.mem hi).1 (by have := (f.ws.mem hi).2; have := f.n12; omega)
theorem RF.sp {n : Int} {ls ws ps : List Int} (f : RF n ls ws ps) : ∀ i ∈ ps, shI i := fun i hi => shI_small (by have := (f.ps i hi).1; omega) (by have := (f.ps i hi).2; omega)
theorem RF.ll {n : Int} {ls ws ps : List Int} (f : RF n ls ws ps) : ls.length ≤ 12 := by have := asc_len f.ls; have := f.n12; omega
theorem RF.wl {n : Int} {ls ws ps : List Int} (f : RF n ls ws ps) : ws.length ≤ 12 := by have := asc_len f.ws; have := f.n12; omega
theorem RF.ql {n : Int} {ls ws ps : List Int} (f : RF n ls ws ps) : ps.length ≤ 12 := by have := f.pl; have := f.n12; omega
theorem ringL_all {Q : Str → Prop} {n : Int} {ls ws ps : List Int} (c1 : Q (Str.ofString "ring")) (c2 : Q (Str.ofString "locks")) (c3 : Q (Str.ofString "walls")) (c4 : Q (Str.ofString "prices")) (hn : Q (sI n)) (hl : ∀ i ∈ ls, Q (sI i)) (hw : ∀ i ∈ ws, Q (sI i)) (hp : ∀ i ∈ ps, Q (sI i)) : ∀ s ∈ ringL n ls ws ps, Q s := by
  unfold ringL
  simp only [List.forall_mem_append, List.forall_mem_cons, List.forall_mem_map]
  exact ⟨⟨⟨⟨⟨⟨c1, hn, c2, by simp⟩, hl⟩, c3, by simp⟩, hw⟩, c4, by simp⟩, hp⟩
theorem RF.line {n : Int} {ls ws ps : List Int} (f : RF n ls ws ps) : sizeS (ringL n ls ws ps) + (ringL n ls ws ps).length * (Str.ofString " ").length ≤ bigLine := by
  have a : ∀ s ∈ ringL n ls ws ps, s.length ≤ 301 := ringL_all (by decide) (by decide) (by decide) (by decide) (shI_len f.sn) (fun i hi => shI_len (f.sl i hi)) (fun i hi => shI_len (f.sw i hi)) (fun i hi => shI_len (f.sp i hi))
  have b : (ringL n ls ws ps).length ≤ 41 := by
    have := f.ll
    have := f.wl
    have := f.ql
    simp only [ringL, List.length_append, List.length_cons, List.length_nil, List.length_map]
    omega
  have c := sizeS_le a
  have d : (Str.ofString " ").length = 1 := by decide
  rw [d]
  simp only [bigLine]
  omega
theorem ringL_asc {n : Int} {ls ws ps : List Int} : ∀ s ∈ ringL n ls ws ps, W.KSb.Asc s :=
  ringL_all (W.KSb.asc_of (by decide +kernel)) (W.KSb.asc_of (by decide +kernel)) (W.KSb.asc_of (by decide +kernel)) (W.KSb.asc_of (by decide +kernel)) (W.KSb.asc_num _) (fun _ _ => W.KSb.asc_num _) (fun _ _ => W.KSb.asc_num _) (fun _ _ => W.KSb.asc_num _)
theorem ringS_asc {n : Int} {ls ws ps : List Int} : W.KSb.Asc (ringS n ls ws ps) := by
  unfold ringS
  rw [join_eq]
  exact asc_join (W.KSb.asc_of (by decide +kernel)) ringL_asc
theorem reprS_asc {n : Int} : W.KSb.Asc (reprS n) := W.KSb.asc_app (W.KSb.asc_app (W.KSb.asc_of (by decide +kernel)) (W.KSb.asc_num _)) (W.KSb.asc_of (by decide +kernel))
theorem ringL_strs {n : Int} {ls ws ps : List Int} : strsW ([W.str "ring", .str (sI n), .str "locks"] ++ (iW ls).map sW ++ [.str "walls"] ++ (iW ws).map sW ++ [.str "prices"] ++ (iW ps).map sW) = some (ringL n ls ws ps) :=
  strsW_app (strsW_app (strsW_app (strsW_app (strsW_app rfl strsW_sI) rfl) strsW_sI) rfl) strsW_sI
theorem ring_str {k : Nat} {n : Int} {ls ws ps : List Int} (f : RF n ls ws ps) : callM P (k + 1) "Ring.__str__" [.p (ringW n ls ws (iW ps))] = okP (.str (ringS n ls ws ps)) := by
  refine eq_of_wp fun S => w_call fn_Ringu_stru rfl ?_
  simp only [b_Ringu_stru, ringW]
  have hs := f.sn
  have hl := f.ll
  have hw := f.wl
  have hp := f.ql
  have big : bigLine = 1000000 := rfl
  have hll : ls.length ≤ bigLine := by omega
  have hwl : ws.length ≤ bigLine := by omega
  have hpl : ps.length ≤ bigLine := by omega
  try simp -implicitDefEqProofs only [↓w_bind, ↓w_inS, ↓w_inSb, ↓w_inSs, ↓w_cons, ↓wp_nil, ↓wE_var, ↓wE_cst, ↓wE_glob, ↓wE_pr, ↓w_kAnd, ↓w_kOr, ↓wE_and, ↓wE_or, ↓wE_not, ↓w_kNot, ↓w_kIte, ↓wE_ite, ↓wE_chain, ↓w_kCh1, ↓w_kCh2, ↓w_kCh3, ↓wE_chain3, ↓w_kDh1, ↓w_kDh2, ↓w_kDh3, ↓w_kDh4, ↓w_kDh5, ↓wT_chain3, ↓wE_comp, ↓w_kComp0, ↓w_kComp2f, ↓w_kComp2t, ↓wE_call, ↓wE_meth, ↓w_kMe1, ↓w_kMe2, ↓wE_mcall, ↓w_kMc0, ↓w_kMc1, ↓wE_new, ↓wE_fld, ↓wEs_nil, ↓wEs_cons, ↓w_kEs1, ↓w_kEs2, ↓wT_and, ↓wT_or, ↓wT_not, ↓w_kTA, ↓w_kTO, ↓w_kTN, ↓wT_var, ↓wT_cst, ↓wT_pr, ↓wT_chain, ↓wT_call, ↓wT_meth, ↓wT_mcall, ↓wT_fld, ↓wC_nil, ↓wC_cons, ↓w_kC, ↓w_kCf2, ↓w_kCf3, ↓wS_expr, ↓wS_asg, ↓wS_asT, ↓w_kAsT, ↓wS_par, ↓w_kPar, ↓wS_setix, ↓w_kSx1, ↓w_kSx2, ↓w_kSx3, ↓wS_setix2, ↓w_kSy1, ↓w_kSy2, ↓w_kSy3, ↓wS_setf, ↓w_kSf1, ↓w_kSf2, ↓wS_aug, ↓w_kAu, ↓wS_ret, ↓wS_retN, ↓wS_ifs, ↓w_kIf, ↓wS_for, ↓w_kFor, ↓wS_whl, ↓wS_brk, ↓wS_cnt, ↓wS_pass, ↓wS_raise, ↓wS_thru, ↓w_itN, ↓w_itP, ↓w_truU, ↓w_truL, ↓w_p1, ↓w_p1l, ↓w_p2, ↓w_p2l, ↓w_p2r, ↓w_eq, ↓w_ne, ↓w_eql, ↓w_nel, ↓w_tup, ↓w_lst, ↓w_lstT, ↓w_frUs0, ↓w_frUs1, ↓w_frUsL, wp_ok, wp_okP, wp_bad, wp_ite, wp_nxt, wp_rdp, wp_frp, wp_some, wp_finp, wp_newU, wp_rdl', wp_setix, wp_setf, wp_updL, wp_guard, kB_ap, kM_ap, kS_nx, kS_rt, kS_bk, kS_ct, kS_ex, kX_ap, kF_rt, kF_nx, kF_ex, oW_s, oW_n, oW_i, prE, bindA, Dfl.w, kCall, kMc2, kNew, truW, tagW, subT, addW, subW, modW, cmpW, ixW, lenW, seqW, isNon, boolsW, MO.frz, fldU, augM, augW, oB, oI, setsL, slW, wp_optI, itemsW, mulW_l', mulW_r', wp_eqI, bnd_nm, bnd_2, bnd_3, bnd_4, wipeL, ix20, ix21, ix30, ix31, ix32, List.any_cons, List.any_nil, String.reduceBEq, Bool.or_false, Bool.or_true, Bool.false_or, Bool.true_or, Bool.and_false, Bool.and_true, Bool.false_and, Bool.true_and, Bool.not_true, Bool.not_false, beq_self_eq_true, Int.reduceLT, Int.reduceLE, Int.reduceEq, Nat.reduceLT, Nat.reduceLeDiff, Nat.reduceEqDiff, decide_true, decide_false, decide_eq_true_eq, and_self, and_true, true_and, List.map_cons, List.map_nil, List.cons_append, List.nil_append, List.append_nil, List.replicate_succ, List.replicate_zero, List.length_cons, List.length_nil, List.getElem?_cons_zero, List.getElem?_cons_succ, List.set_cons_zero, List.set_cons_succ, Option.bind_some, Option.bind_none, Option.map_some, Option.map_none, Nat.reduceSub, Nat.reduceAdd, Nat.sub_self, Nat.add_zero, Nat.zero_add, ite_true, ite_false, if_true, if_false, Bool.false_eq_true, reduceCtorEq, List.take_length, rcv_join, rcv_split, rcv_find, rcv_index, rcv_indexL, rcv_count, rcv_append, rcv_extend, eqF_pp, fs_size, fs_locks, fs_walls, fs_prices, w_strI hs, itU, walkU, itemsW, wp_guard, List.length_map, hll, hwl, hpl]
  rw [wp_compM (g := sW) fun w hw => ?_]
  · try simp -implicitDefEqProofs only [↓w_bind, ↓w_inS, ↓w_inSb, ↓w_inSs, ↓w_cons, ↓wp_nil, ↓wE_var, ↓wE_cst, ↓wE_glob, ↓wE_pr, ↓w_kAnd, ↓w_kOr, ↓wE_and, ↓wE_or, ↓wE_not, ↓w_kNot, ↓w_kIte, ↓wE_ite, ↓wE_chain, ↓w_kCh1, ↓w_kCh2, ↓w_kCh3, ↓wE_chain3, ↓w_kDh1, ↓w_kDh2, ↓w_kDh3, ↓w_kDh4, ↓w_kDh5, ↓wT_chain3, ↓wE_comp, ↓w_kComp0, ↓w_kComp2f, ↓w_kComp2t, ↓wE_call, ↓wE_meth, ↓w_kMe1, ↓w_kMe2, ↓wE_mcall, ↓w_kMc0, ↓w_kMc1, ↓wE_new, ↓wE_fld, ↓wEs_nil, ↓wEs_cons, ↓w_kEs1, ↓w_kEs2, ↓wT_and, ↓wT_or, ↓wT_not, ↓w_kTA, ↓w_kTO, ↓w_kTN, ↓wT_var, ↓wT_cst, ↓wT_pr, ↓wT_chain, ↓wT_call, ↓wT_meth, ↓wT_mcall, ↓wT_fld, ↓wC_nil, ↓wC_cons, ↓w_kC, ↓w_kCf2, ↓w_kCf3, ↓wS_expr, ↓wS_asg, ↓wS_asT, ↓w_kAsT, ↓wS_par, ↓w_kPar, ↓wS_setix, ↓w_kSx1, ↓w_kSx2, ↓w_kSx3, ↓wS_setix2, ↓w_kSy1, ↓w_kSy2, ↓w_kSy3, ↓wS_setf, ↓w_kSf1, ↓w_kSf2, ↓wS_aug, ↓w_kAu, ↓wS_ret, ↓wS_retN, ↓wS_ifs, ↓w_kIf, ↓wS_for, ↓w_kFor, ↓wS_whl, ↓wS_brk, ↓wS_cnt, ↓wS_pass, ↓wS_raise, ↓wS_thru, ↓w_itN, ↓w_itP, ↓w_truU, ↓w_truL, ↓w_p1, ↓w_p1l, ↓w_p2, ↓w_p2l, ↓w_p2r, ↓w_eq, ↓w_ne, ↓w_eql, ↓w_nel, ↓w_tup, ↓w_lst, ↓w_lstT, ↓w_frUs0, ↓w_frUs1, ↓w_frUsL, wp_ok, wp_okP, wp_bad, wp_ite, wp_nxt, wp_rdp, wp_frp, wp_some, wp_finp, wp_newU, wp_rdl', wp_setix, wp_setf, wp_updL, wp_guard, kB_ap, kM_ap, kS_nx, kS_rt, kS_bk, kS_ct, kS_ex, kX_ap, kF_rt, kF_nx, kF_ex, oW_s, oW_n, oW_i, prE, bindA, Dfl.w, kCall, kMc2, kNew, truW, tagW, subT, addW, subW, modW, cmpW, ixW, lenW, seqW, isNon, boolsW, MO.frz, fldU, augM, augW, oB, oI, setsL, slW, wp_optI, itemsW, mulW_l', mulW_r', wp_eqI, bnd_nm, bnd_2, bnd_3, bnd_4, wipeL, ix20, ix21, ix30, ix31, ix32, List.any_cons, List.any_nil, String.reduceBEq, Bool.or_false, Bool.or_true, Bool.false_or, Bool.true_or, Bool.and_false, Bool.and_true, Bool.false_and, Bool.true_and, Bool.not_true, Bool.not_false, beq_self_eq_true, Int.reduceLT, Int.reduceLE, Int.reduceEq, Nat.reduceLT, Nat.reduceLeDiff, Nat.reduceEqDiff, decide_true, decide_false, decide_eq_true_eq, and_self, and_true, true_and, List.map_cons, List.map_nil, List.cons_append, List.nil_append, List.append_nil, List.replicate_succ, List.replicate_zero, List.length_cons, List.length_nil, List.getElem?_cons_zero, List.getElem?_cons_succ, List.set_cons_zero, List.set_cons_succ, Option.bind_some, Option.bind_none, Option.map_some, Option.map_none, Nat.reduceSub, Nat.reduceAdd, Nat.sub_self, Nat.add_zero, Nat.zero_add, ite_true, ite_false, if_true, if_false, Bool.false_eq_true, reduceCtorEq, List.take_length, rcv_join, rcv_split, rcv_find, rcv_index, rcv_indexL, rcv_count, rcv_append, rcv_extend, eqF_pp, List.length_map, List.length_append, fs_size, fs_locks, fs_walls, fs_prices]
    repeat rw [if_pos (by omega)]
    refine ⟨hwl, ?_⟩
    rw [wp_compM (g := sW) fun w hw => ?_]
    · try simp -implicitDefEqProofs only [↓w_bind, ↓w_inS, ↓w_inSb, ↓w_inSs, ↓w_cons, ↓wp_nil, ↓wE_var, ↓wE_cst, ↓wE_glob, ↓wE_pr, ↓w_kAnd, ↓w_kOr, ↓wE_and, ↓wE_or, ↓wE_not, ↓w_kNot, ↓w_kIte, ↓wE_ite, ↓wE_chain, ↓w_kCh1, ↓w_kCh2, ↓w_kCh3, ↓wE_chain3, ↓w_kDh1, ↓w_kDh2, ↓w_kDh3, ↓w_kDh4, ↓w_kDh5, ↓wT_chain3, ↓wE_comp, ↓w_kComp0, ↓w_kComp2f, ↓w_kComp2t, ↓wE_call, ↓wE_meth, ↓w_kMe1, ↓w_kMe2, ↓wE_mcall, ↓w_kMc0, ↓w_kMc1, ↓wE_new, ↓wE_fld, ↓wEs_nil, ↓wEs_cons, ↓w_kEs1, ↓w_kEs2, ↓wT_and, ↓wT_or, ↓wT_not, ↓w_kTA, ↓w_kTO, ↓w_kTN, ↓wT_var, ↓wT_cst, ↓wT_pr, ↓wT_chain, ↓wT_call, ↓wT_meth, ↓wT_mcall, ↓wT_fld, ↓wC_nil, ↓wC_cons, ↓w_kC, ↓w_kCf2, ↓w_kCf3, ↓wS_expr, ↓wS_asg, ↓wS_asT, ↓w_kAsT, ↓wS_par, ↓w_kPar, ↓wS_setix, ↓w_kSx1, ↓w_kSx2, ↓w_kSx3, ↓wS_setix2, ↓w_kSy1, ↓w_kSy2, ↓w_kSy3, ↓wS_setf, ↓w_kSf1, ↓w_kSf2, ↓wS_aug, ↓w_kAu, ↓wS_ret, ↓wS_retN, ↓wS_ifs, ↓w_kIf, ↓wS_for, ↓w_kFor, ↓wS_whl, ↓wS_brk, ↓wS_cnt, ↓wS_pass, ↓wS_raise, ↓wS_thru, ↓w_itN, ↓w_itP, ↓w_truU, ↓w_truL, ↓w_p1, ↓w_p1l, ↓w_p2, ↓w_p2l, ↓w_p2r, ↓w_eq, ↓w_ne, ↓w_eql, ↓w_nel, ↓w_tup, ↓w_lst, ↓w_lstT, ↓w_frUs0, ↓w_frUs1, ↓w_frUsL, wp_ok, wp_okP, wp_bad, wp_ite, wp_nxt, wp_rdp, wp_frp, wp_some, wp_finp, wp_newU, wp_rdl', wp_setix, wp_setf, wp_updL, wp_guard, kB_ap, kM_ap, kS_nx, kS_rt, kS_bk, kS_ct, kS_ex, kX_ap, kF_rt, kF_nx, kF_ex, oW_s, oW_n, oW_i, prE, bindA, Dfl.w, kCall, kMc2, kNew, truW, tagW, subT, addW, subW, modW, cmpW, ixW, lenW, seqW, isNon, boolsW, MO.frz, fldU, augM, augW, oB, oI, setsL, slW, wp_optI, itemsW, mulW_l', mulW_r', wp_eqI, bnd_nm, bnd_2, bnd_3, bnd_4, wipeL, ix20, ix21, ix30, ix31, ix32, List.any_cons, List.any_nil, String.reduceBEq, Bool.or_false, Bool.or_true, Bool.false_or, Bool.true_or, Bool.and_false, Bool.and_true, Bool.false_and, Bool.true_and, Bool.not_true, Bool.not_false, beq_self_eq_true, Int.reduceLT, Int.reduceLE, Int.reduceEq, Nat.reduceLT, Nat.reduceLeDiff, Nat.reduceEqDiff, decide_true, decide_false, decide_eq_true_eq, and_self, and_true, true_and, List.map_cons, List.map_nil, List.cons_append, List.nil_append, List.append_nil, List.replicate_succ, List.replicate_zero, List.length_cons, List.length_nil, List.getElem?_cons_zero, List.getElem?_cons_succ, List.set_cons_zero, List.set_cons_succ, Option.bind_some, Option.bind_none, Option.map_some, Option.map_none, Nat.reduceSub, Nat.reduceAdd, Nat.sub_self, Nat.add_zero, Nat.zero_add, ite_true, ite_false, if_true, if_false, Bool.false_eq_true, reduceCtorEq, List.take_length, rcv_join, rcv_split, rcv_find, rcv_index, rcv_indexL, rcv_count, rcv_append, rcv_extend, eqF_pp, List.length_map, List.length_append, fs_size, fs_locks, fs_walls, fs_prices]
      repeat rw [if_pos (by omega)]
      refine ⟨hpl, ?_⟩
      rw [wp_compM (g := sW) fun w hw => ?_]
      · try simp -implicitDefEqProofs only [↓w_bind, ↓w_inS, ↓w_inSb, ↓w_inSs, ↓w_cons, ↓wp_nil, ↓wE_var, ↓wE_cst, ↓wE_glob, ↓wE_pr, ↓w_kAnd, ↓w_kOr, ↓wE_and, ↓wE_or, ↓wE_not, ↓w_kNot, ↓w_kIte, ↓wE_ite, ↓wE_chain, ↓w_kCh1, ↓w_kCh2, ↓w_kCh3, ↓wE_chain3, ↓w_kDh1, ↓w_kDh2, ↓w_kDh3, ↓w_kDh4, ↓w_kDh5, ↓wT_chain3, ↓wE_comp, ↓w_kComp0, ↓w_kComp2f, ↓w_kComp2t, ↓wE_call, ↓wE_meth, ↓w_kMe1, ↓w_kMe2, ↓wE_mcall, ↓w_kMc0, ↓w_kMc1, ↓wE_new, ↓wE_fld, ↓wEs_nil, ↓wEs_cons, ↓w_kEs1, ↓w_kEs2, ↓wT_and, ↓wT_or, ↓wT_not, ↓w_kTA, ↓w_kTO, ↓w_kTN, ↓wT_var, ↓wT_cst, ↓wT_pr, ↓wT_chain, ↓wT_call, ↓wT_meth, ↓wT_mcall, ↓wT_fld, ↓wC_nil, ↓wC_cons, ↓w_kC, ↓w_kCf2, ↓w_kCf3, ↓wS_expr, ↓wS_asg, ↓wS_asT, ↓w_kAsT, ↓wS_par, ↓w_kPar, ↓wS_setix, ↓w_kSx1, ↓w_kSx2, ↓w_kSx3, ↓wS_setix2, ↓w_kSy1, ↓w_kSy2, ↓w_kSy3, ↓wS_setf, ↓w_kSf1, ↓w_kSf2, ↓wS_aug, ↓w_kAu, ↓wS_ret, ↓wS_retN, ↓wS_ifs, ↓w_kIf, ↓wS_for, ↓w_kFor, ↓wS_whl, ↓wS_brk, ↓wS_cnt, ↓wS_pass, ↓wS_raise, ↓wS_thru, ↓w_itN, ↓w_itP, ↓w_truU, ↓w_truL, ↓w_p1, ↓w_p1l, ↓w_p2, ↓w_p2l, ↓w_p2r, ↓w_eq, ↓w_ne, ↓w_eql, ↓w_nel, ↓w_tup, ↓w_lst, ↓w_lstT, ↓w_frUs0, ↓w_frUs1, ↓w_frUsL, wp_ok, wp_okP, wp_bad, wp_ite, wp_nxt, wp_rdp, wp_frp, wp_some, wp_finp, wp_newU, wp_rdl', wp_setix, wp_setf, wp_updL, wp_guard, kB_ap, kM_ap, kS_nx, kS_rt, kS_bk, kS_ct, kS_ex, kX_ap, kF_rt, kF_nx, kF_ex, oW_s, oW_n, oW_i, prE, bindA, Dfl.w, kCall, kMc2, kNew, truW, tagW, subT, addW, subW, modW, cmpW, ixW, lenW, seqW, isNon, boolsW, MO.frz, fldU, augM, augW, oB, oI, setsL, slW, wp_optI, itemsW, mulW_l', mulW_r', wp_eqI, bnd_nm, bnd_2, bnd_3, bnd_4, wipeL, ix20, ix21, ix30, ix31, ix32, List.any_cons, List.any_nil, String.reduceBEq, Bool.or_false, Bool.or_true, Bool.false_or, Bool.true_or, Bool.and_false, Bool.and_true, Bool.false_and, Bool.true_and, Bool.not_true, Bool.not_false, beq_self_eq_true, Int.reduceLT, Int.reduceLE, Int.reduceEq, Nat.reduceLT, Nat.reduceLeDiff, Nat.reduceEqDiff, decide_true, decide_false, decide_eq_true_eq, and_self, and_true, true_and, List.map_cons, List.map_nil, List.cons_append, List.nil_append, List.append_nil, List.replicate_succ, List.replicate_zero, List.length_cons, List.length_nil, List.getElem?_cons_zero, List.getElem?_cons_succ, List.set_cons_zero, List.set_cons_succ, Option.bind_some, Option.bind_none, Option.map_some, Option.map_none, Nat.reduceSub, Nat.reduceAdd, Nat.sub_self, Nat.add_zero, Nat.zero_add, ite_true, ite_false, if_true, if_false, Bool.false_eq_true, reduceCtorEq, List.take_length, rcv_join, rcv_split, rcv_find, rcv_index, rcv_indexL, rcv_count, rcv_append, rcv_extend, eqF_pp, List.length_map, List.length_append, fs_size, fs_locks, fs_walls, fs_prices]
        repeat rw [if_pos (by omega)]
        have e := ringL_strs (n := n) (ls := ls) (ws := ws) (ps := ps)
        simp only [List.cons_append, List.nil_append, List.append_assoc] at e ⊢
        try simp -implicitDefEqProofs only [↓w_bind, ↓w_inS, ↓w_inSb, ↓w_inSs, ↓w_cons, ↓wp_nil, ↓wE_var, ↓wE_cst, ↓wE_glob, ↓wE_pr, ↓w_kAnd, ↓w_kOr, ↓wE_and, ↓wE_or, ↓wE_not, ↓w_kNot, ↓w_kIte, ↓wE_ite, ↓wE_chain, ↓w_kCh1, ↓w_kCh2, ↓w_kCh3, ↓wE_chain3, ↓w_kDh1, ↓w_kDh2, ↓w_kDh3, ↓w_kDh4, ↓w_kDh5, ↓wT_chain3, ↓wE_comp, ↓w_kComp0, ↓w_kComp2f, ↓w_kComp2t, ↓wE_call, ↓wE_meth, ↓w_kMe1, ↓w_kMe2, ↓wE_mcall, ↓w_kMc0, ↓w_kMc1, ↓wE_new, ↓wE_fld, ↓wEs_nil, ↓wEs_cons, ↓w_kEs1, ↓w_kEs2, ↓wT_and, ↓wT_or, ↓wT_not, ↓w_kTA, ↓w_kTO, ↓w_kTN, ↓wT_var, ↓wT_cst, ↓wT_pr, ↓wT_chain, ↓wT_call, ↓wT_meth, ↓wT_mcall, ↓wT_fld, ↓wC_nil, ↓wC_cons, ↓w_kC, ↓w_kCf2, ↓w_kCf3, ↓wS_expr, ↓wS_asg, ↓wS_asT, ↓w_kAsT, ↓wS_par, ↓w_kPar, ↓wS_setix, ↓w_kSx1, ↓w_kSx2, ↓w_kSx3, ↓wS_setix2, ↓w_kSy1, ↓w_kSy2, ↓w_kSy3, ↓wS_setf, ↓w_kSf1, ↓w_kSf2, ↓wS_aug, ↓w_kAu, ↓wS_ret, ↓wS_retN, ↓wS_ifs, ↓w_kIf, ↓wS_for, ↓w_kFor, ↓wS_whl, ↓wS_brk, ↓wS_cnt, ↓wS_pass, ↓wS_raise, ↓wS_thru, ↓w_itN, ↓w_itP, ↓w_truU, ↓w_truL, ↓w_p1, ↓w_p1l, ↓w_p2, ↓w_p2l, ↓w_p2r, ↓w_eq, ↓w_ne, ↓w_eql, ↓w_nel, ↓w_tup, ↓w_lst, ↓w_lstT, ↓w_frUs0, ↓w_frUs1, ↓w_frUsL, wp_ok, wp_okP, wp_bad, wp_ite, wp_nxt, wp_rdp, wp_frp, wp_some, wp_finp, wp_newU, wp_rdl', wp_setix, wp_setf, wp_updL, wp_guard, kB_ap, kM_ap, kS_nx, kS_rt, kS_bk, kS_ct, kS_ex, kX_ap, kF_rt, kF_nx, kF_ex, oW_s, oW_n, oW_i, prE, bindA, Dfl.w, kCall, kMc2, kNew, truW, tagW, subT, addW, subW, modW, cmpW, ixW, lenW, seqW, isNon, boolsW, MO.frz, fldU, augM, augW, oB, oI, setsL, slW, wp_optI, itemsW, mulW_l', mulW_r', wp_eqI, bnd_nm, bnd_2, bnd_3, bnd_4, wipeL, ix20, ix21, ix30, ix31, ix32, List.any_cons, List.any_nil, String.reduceBEq, Bool.or_false, Bool.or_true, Bool.false_or, Bool.true_or, Bool.and_false, Bool.and_true, Bool.false_and, Bool.true_and, Bool.not_true, Bool.not_false, beq_self_eq_true, Int.reduceLT, Int.reduceLE, Int.reduceEq, Nat.reduceLT, Nat.reduceLeDiff, Nat.reduceEqDiff, decide_true, decide_false, decide_eq_true_eq, and_self, and_true, true_and, List.map_cons, List.map_nil, List.cons_append, List.nil_append, List.append_nil, List.replicate_succ, List.replicate_zero, List.length_cons, List.length_nil, List.getElem?_cons_zero, List.getElem?_cons_succ, List.set_cons_zero, List.set_cons_succ, Option.bind_some, Option.bind_none, Option.map_some, Option.map_none, Nat.reduceSub, Nat.reduceAdd, Nat.sub_self, Nat.add_zero, Nat.zero_add, ite_true, ite_false, if_true, if_false, Bool.false_eq_true, reduceCtorEq, List.take_length, rcv_join, rcv_split, rcv_find, rcv_index, rcv_indexL, rcv_count, rcv_append, rcv_extend, eqF_pp, e, f.line]
        all_goals try first | rfl | exact take_all rfl | exact ⟨rfl, take_all rfl⟩
      · obtain ⟨i, hi, rfl⟩ := List.mem_map.mp hw
        rw [w_compF rfl]
        try simp -implicitDefEqProofs only [↓w_bind, ↓w_inS, ↓w_inSb, ↓w_inSs, ↓w_cons, ↓wp_nil, ↓wE_var, ↓wE_cst, ↓wE_glob, ↓wE_pr, ↓w_kAnd, ↓w_kOr, ↓wE_and, ↓wE_or, ↓wE_not, ↓w_kNot, ↓w_kIte, ↓wE_ite, ↓wE_chain, ↓w_kCh1, ↓w_kCh2, ↓w_kCh3, ↓wE_chain3, ↓w_kDh1, ↓w_kDh2, ↓w_kDh3, ↓w_kDh4, ↓w_kDh5, ↓wT_chain3, ↓wE_comp, ↓w_kComp0, ↓w_kComp2f, ↓w_kComp2t, ↓wE_call, ↓wE_meth, ↓w_kMe1, ↓w_kMe2, ↓wE_mcall, ↓w_kMc0, ↓w_kMc1, ↓wE_new, ↓wE_fld, ↓wEs_nil, ↓wEs_cons, ↓w_kEs1, ↓w_kEs2, ↓wT_and, ↓wT_or, ↓wT_not, ↓w_kTA, ↓w_kTO, ↓w_kTN, ↓wT_var, ↓wT_cst, ↓wT_pr, ↓wT_chain, ↓wT_call, ↓wT_meth, ↓wT_mcall, ↓wT_fld, ↓wC_nil, ↓wC_cons, ↓w_kC, ↓w_kCf2, ↓w_kCf3, ↓wS_expr, ↓wS_asg, ↓wS_asT, ↓w_kAsT, ↓wS_par, ↓w_kPar, ↓wS_setix, ↓w_kSx1, ↓w_kSx2, ↓w_kSx3, ↓wS_setix2, ↓w_kSy1, ↓w_kSy2, ↓w_kSy3, ↓wS_setf, ↓w_kSf1, ↓w_kSf2, ↓wS_aug, ↓w_kAu, ↓wS_ret, ↓wS_retN, ↓wS_ifs, ↓w_kIf, ↓wS_for, ↓w_kFor, ↓wS_whl, ↓wS_brk, ↓wS_cnt, ↓wS_pass, ↓wS_raise, ↓wS_thru, ↓w_itN, ↓w_itP, ↓w_truU, ↓w_truL, ↓w_p1, ↓w_p1l, ↓w_p2, ↓w_p2l, ↓w_p2r, ↓w_eq, ↓w_ne, ↓w_eql, ↓w_nel, ↓w_tup, ↓w_lst, ↓w_lstT, ↓w_frUs0, ↓w_frUs1, ↓w_frUsL, wp_ok, wp_okP, wp_bad, wp_ite, wp_nxt, wp_rdp, wp_frp, wp_some, wp_finp, wp_newU, wp_rdl', wp_setix, wp_setf, wp_updL, wp_guard, kB_ap, kM_ap, kS_nx, kS_rt, kS_bk, kS_ct, kS_ex, kX_ap, kF_rt, kF_nx, kF_ex, oW_s, oW_n, oW_i, prE, bindA, Dfl.w, kCall, kMc2, kNew, truW, tagW, subT, addW, subW, modW, cmpW, ixW, lenW, seqW, isNon, boolsW, MO.frz, fldU, augM, augW, oB, oI, setsL, slW, wp_optI, itemsW, mulW_l', mulW_r', wp_eqI, bnd_nm, bnd_2, bnd_3, bnd_4, wipeL, ix20, ix21, ix30, ix31, ix32, List.any_cons, List.any_nil, String.reduceBEq, Bool.or_false, Bool.or_true, Bool.false_or, Bool.true_or, Bool.and_false, Bool.and_true, Bool.false_and, Bool.true_and, Bool.not_true, Bool.not_false, beq_self_eq_true, Int.reduceLT, Int.reduceLE, Int.reduceEq, Nat.reduceLT, Nat.reduceLeDiff, Nat.reduceEqDiff, decide_true, decide_false, decide_eq_true_eq, and_self, and_true, true_and, List.map_cons, List.map_nil, List.cons_append, List.nil_append, List.append_nil, List.replicate_succ, List.replicate_zero, List.length_cons, List.length_nil, List.getElem?_cons_zero, List.getElem?_cons_succ, List.set_cons_zero, List.set_cons_succ, Option.bind_some, Option.bind_none, Option.map_some, Option.map_none, Nat.reduceSub, Nat.reduceAdd, Nat.sub_self, Nat.add_zero, Nat.zero_add, ite_true, ite_false, if_true, if_false, Bool.false_eq_true, reduceCtorEq, List.take_length, rcv_join, rcv_split, rcv_find, rcv_index, rcv_indexL, rcv_count, rcv_append, rcv_extend, eqF_pp, w_strI (f.sp i hi), sW]
    · obtain ⟨i, hi, rfl⟩ := List.mem_map.mp hw
      rw [w_compF rfl]
      try simp -implicitDefEqProofs only [↓w_bind, ↓w_inS, ↓w_inSb, ↓w_inSs, ↓w_cons, ↓wp_nil, ↓wE_var, ↓wE_cst, ↓wE_glob, ↓wE_pr, ↓w_kAnd, ↓w_kOr, ↓wE_and, ↓wE_or, ↓wE_not, ↓w_kNot, ↓w_kIte, ↓wE_ite, ↓wE_chain, ↓w_kCh1, ↓w_kCh2, ↓w_kCh3, ↓wE_chain3, ↓w_kDh1, ↓w_kDh2, ↓w_kDh3, ↓w_kDh4, ↓w_kDh5, ↓wT_chain3, ↓wE_comp, ↓w_kComp0, ↓w_kComp2f, ↓w_kComp2t, ↓wE_call, ↓wE_meth, ↓w_kMe1, ↓w_kMe2, ↓wE_mcall, ↓w_kMc0, ↓w_kMc1, ↓wE_new, ↓wE_fld, ↓wEs_nil, ↓wEs_cons, ↓w_kEs1, ↓w_kEs2, ↓wT_and, ↓wT_or, ↓wT_not, ↓w_kTA, ↓w_kTO, ↓w_kTN, ↓wT_var, ↓wT_cst, ↓wT_pr, ↓wT_chain, ↓wT_call, ↓wT_meth, ↓wT_mcall, ↓wT_fld, ↓wC_nil, ↓wC_cons, ↓w_kC, ↓w_kCf2, ↓w_kCf3, ↓wS_expr, ↓wS_asg, ↓wS_asT, ↓w_kAsT, ↓wS_par, ↓w_kPar, ↓wS_setix, ↓w_kSx1, ↓w_kSx2, ↓w_kSx3, ↓wS_setix2, ↓w_kSy1, ↓w_kSy2, ↓w_kSy3, ↓wS_setf, ↓w_kSf1, ↓w_kSf2, ↓wS_aug, ↓w_kAu, ↓wS_ret, ↓wS_retN, ↓wS_ifs, ↓w_kIf, ↓wS_for, ↓w_kFor, ↓wS_whl, ↓wS_brk, ↓wS_cnt, ↓wS_pass, ↓wS_raise, ↓wS_thru, ↓w_itN, ↓w_itP, ↓w_truU, ↓w_truL, ↓w_p1, ↓w_p1l, ↓w_p2, ↓w_p2l, ↓w_p2r, ↓w_eq, ↓w_ne, ↓w_eql, ↓w_nel, ↓w_tup, ↓w_lst, ↓w_lstT, ↓w_frUs0, ↓w_frUs1, ↓w_frUsL, wp_ok, wp_okP, wp_bad, wp_ite, wp_nxt, wp_rdp, wp_frp, wp_some, wp_finp, wp_newU, wp_rdl', wp_setix, wp_setf, wp_updL, wp_guard, kB_ap, kM_ap, kS_nx, kS_rt, kS_bk, kS_ct, kS_ex, kX_ap, kF_rt, kF_nx, kF_ex, oW_s, oW_n, oW_i, prE, bindA, Dfl.w, kCall, kMc2, kNew, truW, tagW, subT, addW, subW, modW, cmpW, ixW, lenW, seqW, isNon, boolsW, MO.frz, fldU, augM, augW, oB, oI, setsL, slW, wp_optI, itemsW, mulW_l', mulW_r', wp_eqI, bnd_nm, bnd_2, bnd_3, bnd_4, wipeL, ix20, ix21, ix30, ix31, ix32, List.any_cons, List.any_nil, String.reduceBEq, Bool.or_false, Bool.or_true, Bool.false_or, Bool.true_or, Bool.and_false, Bool.and_true, Bool.false_and, Bool.true_and, Bool.not_true, Bool.not_false, beq_self_eq_true, Int.reduceLT, Int.reduceLE, Int.reduceEq, Nat.reduceLT, Nat.reduceLeDiff, Nat.reduceEqDiff, decide_true, decide_false, decide_eq_true_eq, and_self, and_true, true_and, List.map_cons, List.map_nil, List.cons_append, List.nil_append, List.append_nil, List.replicate_succ, List.replicate_zero, List.length_cons, List.length_nil, List.getElem?_cons_zero, List.getElem?_cons_succ, List.set_cons_zero, List.set_cons_succ, Option.bind_some, Option.bind_none, Option.map_some, Option.map_none, Nat.reduceSub, Nat.reduceAdd, Nat.sub_self, Nat.add_zero, Nat.zero_add, ite_true, ite_false, if_true, if_false, Bool.false_eq_true, reduceCtorEq, List.take_length, rcv_join, rcv_split, rcv_find, rcv_index, rcv_indexL, rcv_count, rcv_append, rcv_extend, eqF_pp, w_strI (f.sw i hi), sW]
  · obtain ⟨i, hi, rfl⟩ := List.mem_map.mp hw
    rw [w_compF rfl]
    try simp -implicitDefEqProofs only [↓w_bind, ↓w_inS, ↓w_inSb, ↓w_inSs, ↓w_cons, ↓wp_nil, ↓wE_var, ↓wE_cst, ↓wE_glob, ↓wE_pr, ↓w_kAnd, ↓w_kOr, ↓wE_and, ↓wE_or, ↓wE_not, ↓w_kNot, ↓w_kIte, ↓wE_ite, ↓wE_chain, ↓w_kCh1, ↓w_kCh2, ↓w_kCh3, ↓wE_chain3, ↓w_kDh1, ↓w_kDh2, ↓w_kDh3, ↓w_kDh4, ↓w_kDh5, ↓wT_chain3, ↓wE_comp, ↓w_kComp0, ↓w_kComp2f, ↓w_kComp2t, ↓wE_call, ↓wE_meth, ↓w_kMe1, ↓w_kMe2, ↓wE_mcall, ↓w_kMc0, ↓w_kMc1, ↓wE_new, ↓wE_fld, ↓wEs_nil, ↓wEs_cons, ↓w_kEs1, ↓w_kEs2, ↓wT_and, ↓wT_or, ↓wT_not, ↓w_kTA, ↓w_kTO, ↓w_kTN, ↓wT_var, ↓wT_cst, ↓wT_pr, ↓wT_chain, ↓wT_call, ↓wT_meth, ↓wT_mcall, ↓wT_fld, ↓wC_nil, ↓wC_cons, ↓w_kC, ↓w_kCf2, ↓w_kCf3, ↓wS_expr, ↓wS_asg, ↓wS_asT, ↓w_kAsT, ↓wS_par, ↓w_kPar, ↓wS_setix, ↓w_kSx1, ↓w_kSx2, ↓w_kSx3, ↓wS_setix2, ↓w_kSy1, ↓w_kSy2, ↓w_kSy3, ↓wS_setf, ↓w_kSf1, ↓w_kSf2, ↓wS_aug, ↓w_kAu, ↓wS_ret, ↓wS_retN, ↓wS_ifs, ↓w_kIf, ↓wS_for, ↓w_kFor, ↓wS_whl, ↓wS_brk, ↓wS_cnt, ↓wS_pass, ↓wS_raise, ↓wS_thru, ↓w_itN, ↓w_itP, ↓w_truU, ↓w_truL, ↓w_p1, ↓w_p1l, ↓w_p2, ↓w_p2l, ↓w_p2r, ↓w_eq, ↓w_ne, ↓w_eql, ↓w_nel, ↓w_tup, ↓w_lst, ↓w_lstT, ↓w_frUs0, ↓w_frUs1, ↓w_frUsL, wp_ok, wp_okP, wp_bad, wp_ite, wp_nxt, wp_rdp, wp_frp, wp_some, wp_finp, wp_newU, wp_rdl', wp_setix, wp_setf, wp_updL, wp_guard, kB_ap, kM_ap, kS_nx, kS_rt, kS_bk, kS_ct, kS_ex, kX_ap, kF_rt, kF_nx, kF_ex, oW_s, oW_n, oW_i, prE, bindA, Dfl.w, kCall, kMc2, kNew, truW, tagW, subT, addW, subW, modW, cmpW, ixW, lenW, seqW, isNon, boolsW, MO.frz, fldU, augM, augW, oB, oI, setsL, slW, wp_optI, itemsW, mulW_l', mulW_r', wp_eqI, bnd_nm, bnd_2, bnd_3, bnd_4, wipeL, ix20, ix21, ix30, ix31, ix32, List.any_cons, List.any_nil, String.reduceBEq, Bool.or_false, Bool.or_true, Bool.false_or, Bool.true_or, Bool.and_false, Bool.and_true, Bool.false_and, Bool.true_and, Bool.not_true, Bool.not_false, beq_self_eq_true, Int.reduceLT, Int.reduceLE, Int.reduceEq, Nat.reduceLT, Nat.reduceLeDiff, Nat.reduceEqDiff, decide_true, decide_false, decide_eq_true_eq, and_self, and_true, true_and, List.map_cons, List.map_nil, List.cons_append, List.nil_append, List.append_nil, List.replicate_succ, List.replicate_zero, List.length_cons, List.length_nil, List.getElem?_cons_zero, List.getElem?_cons_succ, List.set_cons_zero, List.set_cons_succ, Option.bind_some, Option.bind_none, Option.map_some, Option.map_none, Nat.reduceSub, Nat.reduceAdd, Nat.sub_self, Nat.add_zero, Nat.zero_add, ite_true, ite_false, if_true, if_false, Bool.false_eq_true, reduceCtorEq, List.take_length, rcv_join, rcv_split, rcv_find, rcv_index, rcv_indexL, rcv_count, rcv_append, rcv_extend, eqF_pp, w_strI (f.sl i hi), sW]
theorem w_strRing {k : Nat} {n : Int} {ls ws ps : List Int} {QU : U → Sto → Prop} {E : WE} {S : Sto} (f : RF n ls ws ps) : Wp (strM (callM P (k + 1)) (.p (ringW n ls ws (iW ps)))) QU E S = QU (.p (.str (ringS n ls ws ps))) S :=
  w_strO (key := "Ring.__str__") (by decide) (ring_str f)
theorem ring_repr {k : Nat} {n : Int} {ls ws ps : List Int} (f : RF n ls ws ps) : callM P (k + 1) "Ring.__repr__" [.p (ringW n ls ws (iW ps))] = okP (.str (reprS n)) := by
  refine eq_of_wp fun S => w_call fn_Ringu_repru rfl ?_
  simp only [b_Ringu_repru, ringW]
  have hs := shI_line f.sn
  have hl := shI_len f.sn
  have hb : (reprS n).length ≤ bigLine := by
    unfold reprS
    rw [app_length, app_length]
    have e1 : (Str.ofString "Ring(").length = 5 := by decide
    have e2 : (Str.ofString ")").length = 1 := by decide
    simp only [bigLine]
    omega
  have e : fstrW Str.empty [some "Ring(", none, some ")"] [.p (.int n)] = some (reprS n) := by
    simp only [fstrW, hs, if_true, W.KT.empty_app, Option.some.injEq]
    rfl
  try simp -implicitDefEqProofs only [↓w_bind, ↓w_inS, ↓w_inSb, ↓w_inSs, ↓w_cons, ↓wp_nil, ↓wE_var, ↓wE_cst, ↓wE_glob, ↓wE_pr, ↓w_kAnd, ↓w_kOr, ↓wE_and, ↓wE_or, ↓wE_not, ↓w_kNot, ↓w_kIte, ↓wE_ite, ↓wE_chain, ↓w_kCh1, ↓w_kCh2, ↓w_kCh3, ↓wE_chain3, ↓w_kDh1, ↓w_kDh2, ↓w_kDh3, ↓w_kDh4, ↓w_kDh5, ↓wT_chain3, ↓wE_comp, ↓w_kComp0, ↓w_kComp2f, ↓w_kComp2t, ↓wE_call, ↓wE_meth, ↓w_kMe1, ↓w_kMe2, ↓wE_mcall, ↓w_kMc0, ↓w_kMc1, ↓wE_new, ↓wE_fld, ↓wEs_nil, ↓wEs_cons, ↓w_kEs1, ↓w_kEs2, ↓wT_and, ↓wT_or, ↓wT_not, ↓w_kTA, ↓w_kTO, ↓w_kTN, ↓wT_var, ↓wT_cst, ↓wT_pr, ↓wT_chain, ↓wT_call, ↓wT_meth, ↓wT_mcall, ↓wT_fld, ↓wC_nil, ↓wC_cons, ↓w_kC, ↓w_kCf2, ↓w_kCf3, ↓wS_expr, ↓wS_asg, ↓wS_asT, ↓w_kAsT, ↓wS_par, ↓w_kPar, ↓wS_setix, ↓w_kSx1, ↓w_kSx2, ↓w_kSx3, ↓wS_setix2, ↓w_kSy1, ↓w_kSy2, ↓w_kSy3, ↓wS_setf, ↓w_kSf1, ↓w_kSf2, ↓wS_aug, ↓w_kAu, ↓wS_ret, ↓wS_retN, ↓wS_ifs, ↓w_kIf, ↓wS_for, ↓w_kFor, ↓wS_whl, ↓wS_brk, ↓wS_cnt, ↓wS_pass, ↓wS_raise, ↓wS_thru, ↓w_itN, ↓w_itP, ↓w_truU, ↓w_truL, ↓w_p1, ↓w_p1l, ↓w_p2, ↓w_p2l, ↓w_p2r, ↓w_eq, ↓w_ne, ↓w_eql, ↓w_nel, ↓w_tup, ↓w_lst, ↓w_lstT, ↓w_frUs0, ↓w_frUs1, ↓w_frUsL, wp_ok, wp_okP, wp_bad, wp_ite, wp_nxt, wp_rdp, wp_frp, wp_some, wp_finp, wp_newU, wp_rdl', wp_setix, wp_setf, wp_updL, wp_guard, kB_ap, kM_ap, kS_nx, kS_rt, kS_bk, kS_ct, kS_ex, kX_ap, kF_rt, kF_nx, kF_ex, oW_s, oW_n, oW_i, prE, bindA, Dfl.w, kCall, kMc2, kNew, truW, tagW, subT, addW, subW, modW, cmpW, ixW, lenW, seqW, isNon, boolsW, MO.frz, fldU, augM, augW, oB, oI, setsL, slW, wp_optI, itemsW, mulW_l', mulW_r', wp_eqI, bnd_nm, bnd_2, bnd_3, bnd_4, wipeL, ix20, ix21, ix30, ix31, ix32, List.any_cons, List.any_nil, String.reduceBEq, Bool.or_false, Bool.or_true, Bool.false_or, Bool.true_or, Bool.and_false, Bool.and_true, Bool.false_and, Bool.true_and, Bool.not_true, Bool.not_false, beq_self_eq_true, Int.reduceLT, Int.reduceLE, Int.reduceEq, Nat.reduceLT, Nat.reduceLeDiff, Nat.reduceEqDiff, decide_true, decide_false, decide_eq_true_eq, and_self, and_true, true_and, List.map_cons, List.map_nil, List.cons_append, List.nil_append, List.append_nil, List.replicate_succ, List.replicate_zero, List.length_cons, List.length_nil, List.getElem?_cons_zero, List.getElem?_cons_succ, List.set_cons_zero, List.set_cons_succ, Option.bind_some, Option.bind_none, Option.map_some, Option.map_none, Nat.reduceSub, Nat.reduceAdd, Nat.sub_self, Nat.add_zero, Nat.zero_add, ite_true, ite_false, if_true, if_false, Bool.false_eq_true, reduceCtorEq, List.take_length, rcv_join, rcv_split, rcv_find, rcv_index, rcv_indexL, rcv_count, rcv_append, rcv_extend, eqF_pp, fs_size, e, hb]
  all_goals try first | rfl | exact take_all rfl | exact ⟨rfl, take_all rfl⟩
theorem w_reprRing {k : Nat} {n : Int} {ls ws ps : List Int} {QU : U → Sto → Prop} {E : WE} {S : Sto} (f : RF n ls ws ps) : Wp (reprM (callM P (k + 1)) (.p (ringW n ls ws (iW ps)))) QU E S = QU (.p (.str (reprS n))) S :=
  w_reprO (key := "Ring.__repr__") (by decide) (ring_repr f)
end L_k05
end
section
set_option Elab.async false
set_option linter.all false
set_option maxHeartbeats 2000000
set_option maxRecDepth 100000
namespace L_k05
open PySem Pm
theorem read_number_eq {k : Nat} {i : Int} (h0 : 0 ≤ i) (hl : (sI i).length ≤ 31) (hs : shI i) : callM P (k + 1) "read_number" [.p (.str (sI i)), .p (.int 0)] = okP (.tup [.int i, .int ((sI i).length : Int)]) := by
  refine eq_of_wp fun S => w_call fn_read_number rfl ?_
  simp only [b_read_number]
  have hb : (sI i).length ≤ bigLine := by simp only [bigLine]; omega
  have g1 : P.glob "DIGITS" = some (.str digS) := rfl
  have g2 : P.glob "MAX_DIGITS" = some (.int 31) := rfl
  try simp -implicitDefEqProofs only [↓w_bind, ↓w_inS, ↓w_inSb, ↓w_inSs, ↓w_cons, ↓wp_nil, ↓wE_var, ↓wE_cst, ↓wE_glob, ↓wE_pr, ↓w_kAnd, ↓w_kOr, ↓wE_and, ↓wE_or, ↓wE_not, ↓w_kNot, ↓w_kIte, ↓wE_ite, ↓wE_chain, ↓w_kCh1, ↓w_kCh2, ↓w_kCh3, ↓wE_chain3, ↓w_kDh1, ↓w_kDh2, ↓w_kDh3, ↓w_kDh4, ↓w_kDh5, ↓wT_chain3, ↓wE_comp, ↓w_kComp0, ↓w_kComp2f, ↓w_kComp2t, ↓wE_call, ↓wE_meth, ↓w_kMe1, ↓w_kMe2, ↓wE_mcall, ↓w_kMc0, ↓w_kMc1, ↓wE_new, ↓wE_fld, ↓wEs_nil, ↓wEs_cons, ↓w_kEs1, ↓w_kEs2, ↓wT_and, ↓wT_or, ↓wT_not, ↓w_kTA, ↓w_kTO, ↓w_kTN, ↓wT_var, ↓wT_cst, ↓wT_pr, ↓wT_chain, ↓wT_call, ↓wT_meth, ↓wT_mcall, ↓wT_fld, ↓wC_nil, ↓wC_cons, ↓w_kC, ↓w_kCf2, ↓w_kCf3, ↓wS_expr, ↓wS_asg, ↓wS_asT, ↓w_kAsT, ↓wS_par, ↓w_kPar, ↓wS_setix, ↓w_kSx1, ↓w_kSx2, ↓w_kSx3, ↓wS_setix2, ↓w_kSy1, ↓w_kSy2, ↓w_kSy3, ↓wS_setf, ↓w_kSf1, ↓w_kSf2, ↓wS_aug, ↓w_kAu, ↓wS_ret, ↓wS_retN, ↓wS_ifs, ↓w_kIf, ↓wS_for, ↓w_kFor, ↓wS_whl, ↓wS_brk, ↓wS_cnt, ↓wS_pass, ↓wS_raise, ↓wS_thru, ↓w_itN, ↓w_itP, ↓w_truU, ↓w_truL, ↓w_p1, ↓w_p1l, ↓w_p2, ↓w_p2l, ↓w_p2r, ↓w_eq, ↓w_ne, ↓w_eql, ↓w_nel, ↓w_tup, ↓w_lst, ↓w_lstT, ↓w_frUs0, ↓w_frUs1, ↓w_frUsL, wp_ok, wp_okP, wp_bad, wp_ite, wp_nxt, wp_rdp, wp_frp, wp_some, wp_finp, wp_newU, wp_rdl', wp_setix, wp_setf, wp_updL, wp_guard, kB_ap, kM_ap, kS_nx, kS_rt, kS_bk, kS_ct, kS_ex, kX_ap, kF_rt, kF_nx, kF_ex, oW_s, oW_n, oW_i, prE, bindA, Dfl.w, kCall, kMc2, kNew, truW, tagW, subT, addW, subW, modW, cmpW, ixW, lenW, seqW, isNon, boolsW, MO.frz, fldU, augM, augW, oB, oI, setsL, slW, wp_optI, itemsW, mulW_l', mulW_r', wp_eqI, bnd_nm, bnd_2, bnd_3, bnd_4, wipeL, ix20, ix21, ix30, ix31, ix32, List.any_cons, List.any_nil, String.reduceBEq, Bool.or_false, Bool.or_true, Bool.false_or, Bool.true_or, Bool.and_false, Bool.and_true, Bool.false_and, Bool.true_and, Bool.not_true, Bool.not_false, beq_self_eq_true, Int.reduceLT, Int.reduceLE, Int.reduceEq, Nat.reduceLT, Nat.reduceLeDiff, Nat.reduceEqDiff, decide_true, decide_false, decide_eq_true_eq, and_self, and_true, true_and, List.map_cons, List.map_nil, List.cons_append, List.nil_append, List.append_nil, List.replicate_succ, List.replicate_zero, List.length_cons, List.length_nil, List.getElem?_cons_zero, List.getElem?_cons_succ, List.set_cons_zero, List.set_cons_succ, Option.bind_some, Option.bind_none, Option.map_some, Option.map_none, Nat.reduceSub, Nat.reduceAdd, Nat.sub_self, Nat.add_zero, Nat.zero_add, ite_true, ite_false, if_true, if_false, Bool.false_eq_true, reduceCtorEq, List.take_length, rcv_join, rcv_split, rcv_find, rcv_index, rcv_indexL, rcv_count, rcv_append, rcv_extend, eqF_pp]
  refine wp_whlL (n := (sI i).length) (I := fun j τ S' => S' = S ∧ j ≤ (sI i).length ∧ τ = [some (.p (.str (sI i))), some (.p (.int 0)), some (.p (.int (j : Int))), none]) (wh := P.wh) (i := 0) ?_ ⟨rfl, by omega, rfl⟩ ?_ (by omega)
  · have := wh1000
    show (sI i).length < 0 + P.wh
    omega
  · rintro j τ S' ⟨rfl, hj, rfl⟩
    by_cases hlt : j < (sI i).length
    · have hlt2 : (j : Int) < ((sI i).length : Int) := by omega
      obtain ⟨c, hc⟩ : ∃ c, (sI i).cps.toList[j]? = some c := ⟨_, List.getElem?_eq_getElem (by rw [len_tl]; exact hlt)⟩
      have hd := digS_mem (sI_dig h0 (List.mem_of_getElem? hc))
      try simp -implicitDefEqProofs only [↓w_bind, ↓w_inS, ↓w_inSb, ↓w_inSs, ↓w_cons, ↓wp_nil, ↓wE_var, ↓wE_cst, ↓wE_glob, ↓wE_pr, ↓w_kAnd, ↓w_kOr, ↓wE_and, ↓wE_or, ↓wE_not, ↓w_kNot, ↓w_kIte, ↓wE_ite, ↓wE_chain, ↓w_kCh1, ↓w_kCh2, ↓w_kCh3, ↓wE_chain3, ↓w_kDh1, ↓w_kDh2, ↓w_kDh3, ↓w_kDh4, ↓w_kDh5, ↓wT_chain3, ↓wE_comp, ↓w_kComp0, ↓w_kComp2f, ↓w_kComp2t, ↓wE_call, ↓wE_meth, ↓w_kMe1, ↓w_kMe2, ↓wE_mcall, ↓w_kMc0, ↓w_kMc1, ↓wE_new, ↓wE_fld, ↓wEs_nil, ↓wEs_cons, ↓w_kEs1, ↓w_kEs2, ↓wT_and, ↓wT_or, ↓wT_not, ↓w_kTA, ↓w_kTO, ↓w_kTN, ↓wT_var, ↓wT_cst, ↓wT_pr, ↓wT_chain, ↓wT_call, ↓wT_meth, ↓wT_mcall, ↓wT_fld, ↓wC_nil, ↓wC_cons, ↓w_kC, ↓w_kCf2, ↓w_kCf3, ↓wS_expr, ↓wS_asg, ↓wS_asT, ↓w_kAsT, ↓wS_par, ↓w_kPar, ↓wS_setix, ↓w_kSx1, ↓w_kSx2, ↓w_kSx3, ↓wS_setix2, ↓w_kSy1, ↓w_kSy2, ↓w_kSy3, ↓wS_setf, ↓w_kSf1, ↓w_kSf2, ↓wS_aug, ↓w_kAu, ↓wS_ret, ↓wS_retN, ↓wS_ifs, ↓w_kIf, ↓wS_for, ↓w_kFor, ↓wS_whl, ↓wS_brk, ↓wS_cnt, ↓wS_pass, ↓wS_raise, ↓wS_thru, ↓w_itN, ↓w_itP, ↓w_truU, ↓w_truL, ↓w_p1, ↓w_p1l, ↓w_p2, ↓w_p2l, ↓w_p2r, ↓w_eq, ↓w_ne, ↓w_eql, ↓w_nel, ↓w_tup, ↓w_lst, ↓w_lstT, ↓w_frUs0, ↓w_frUs1, ↓w_frUsL, wp_ok, wp_okP, wp_bad, wp_ite, wp_nxt, wp_rdp, wp_frp, wp_some, wp_finp, wp_newU, wp_rdl', wp_setix, wp_setf, wp_updL, wp_guard, kB_ap, kM_ap, kS_nx, kS_rt, kS_bk, kS_ct, kS_ex, kX_ap, kF_rt, kF_nx, kF_ex, oW_s, oW_n, oW_i, prE, bindA, Dfl.w, kCall, kMc2, kNew, truW, tagW, subT, addW, subW, modW, cmpW, ixW, lenW, seqW, isNon, boolsW, MO.frz, fldU, augM, augW, oB, oI, setsL, slW, wp_optI, itemsW, mulW_l', mulW_r', wp_eqI, bnd_nm, bnd_2, bnd_3, bnd_4, wipeL, ix20, ix21, ix30, ix31, ix32, List.any_cons, List.any_nil, String.reduceBEq, Bool.or_false, Bool.or_true, Bool.false_or, Bool.true_or, Bool.and_false, Bool.and_true, Bool.false_and, Bool.true_and, Bool.not_true, Bool.not_false, beq_self_eq_true, Int.reduceLT, Int.reduceLE, Int.reduceEq, Nat.reduceLT, Nat.reduceLeDiff, Nat.reduceEqDiff, decide_true, decide_false, decide_eq_true_eq, and_self, and_true, true_and, List.map_cons, List.map_nil, List.cons_append, List.nil_append, List.append_nil, List.replicate_succ, List.replicate_zero, List.length_cons, List.length_nil, List.getElem?_cons_zero, List.getElem?_cons_succ, List.set_cons_zero, List.set_cons_succ, Option.bind_some, Option.bind_none, Option.map_some, Option.map_none, Nat.reduceSub, Nat.reduceAdd, Nat.sub_self, Nat.add_zero, Nat.zero_add, ite_true, ite_false, if_true, if_false, Bool.false_eq_true, reduceCtorEq, List.take_length, rcv_join, rcv_split, rcv_find, rcv_index, rcv_indexL, rcv_count, rcv_append, rcv_extend, eqF_pp, hb, hlt2, ixN_ok hlt, hc, g1, inW_chr, hd, hlt, augM]
      exact ⟨by omega, rfl⟩
    · have hj2 : j = (sI i).length := by omega
      subst hj2
      have e1 : decide (((sI i).length : Int) < ((sI i).length : Int)) = false := by simp
      have e2 : (1 : Int) ≤ ((sI i).length : Int) := by have := sI_len0 h0; omega
      have e3 : ((sI i).length : Int) ≤ 31 := by omega
      try simp -implicitDefEqProofs only [↓w_bind, ↓w_inS, ↓w_inSb, ↓w_inSs, ↓w_cons, ↓wp_nil, ↓wE_var, ↓wE_cst, ↓wE_glob, ↓wE_pr, ↓w_kAnd, ↓w_kOr, ↓wE_and, ↓wE_or, ↓wE_not, ↓w_kNot, ↓w_kIte, ↓wE_ite, ↓wE_chain, ↓w_kCh1, ↓w_kCh2, ↓w_kCh3, ↓wE_chain3, ↓w_kDh1, ↓w_kDh2, ↓w_kDh3, ↓w_kDh4, ↓w_kDh5, ↓wT_chain3, ↓wE_comp, ↓w_kComp0, ↓w_kComp2f, ↓w_kComp2t, ↓wE_call, ↓wE_meth, ↓w_kMe1, ↓w_kMe2, ↓wE_mcall, ↓w_kMc0, ↓w_kMc1, ↓wE_new, ↓wE_fld, ↓wEs_nil, ↓wEs_cons, ↓w_kEs1, ↓w_kEs2, ↓wT_and, ↓wT_or, ↓wT_not, ↓w_kTA, ↓w_kTO, ↓w_kTN, ↓wT_var, ↓wT_cst, ↓wT_pr, ↓wT_chain, ↓wT_call, ↓wT_meth, ↓wT_mcall, ↓wT_fld, ↓wC_nil, ↓wC_cons, ↓w_kC, ↓w_kCf2, ↓w_kCf3, ↓wS_expr, ↓wS_asg, ↓wS_asT, ↓w_kAsT, ↓wS_par, ↓w_kPar, ↓wS_setix, ↓w_kSx1, ↓w_kSx2, ↓w_kSx3, ↓wS_setix2, ↓w_kSy1, ↓w_kSy2, ↓w_kSy3, ↓wS_setf, ↓w_kSf1, ↓w_kSf2, ↓wS_aug, ↓w_kAu, ↓wS_ret, ↓wS_retN, ↓wS_ifs, ↓w_kIf, ↓wS_for, ↓w_kFor, ↓wS_whl, ↓wS_brk, ↓wS_cnt, ↓wS_pass, ↓wS_raise, ↓wS_thru, ↓w_itN, ↓w_itP, ↓w_truU, ↓w_truL, ↓w_p1, ↓w_p1l, ↓w_p2, ↓w_p2l, ↓w_p2r, ↓w_eq, ↓w_ne, ↓w_eql, ↓w_nel, ↓w_tup, ↓w_lst, ↓w_lstT, ↓w_frUs0, ↓w_frUs1, ↓w_frUsL, wp_ok, wp_okP, wp_bad, wp_ite, wp_nxt, wp_rdp, wp_frp, wp_some, wp_finp, wp_newU, wp_rdl', wp_setix, wp_setf, wp_updL, wp_guard, kB_ap, kM_ap, kS_nx, kS_rt, kS_bk, kS_ct, kS_ex, kX_ap, kF_rt, kF_nx, kF_ex, oW_s, oW_n, oW_i, prE, bindA, Dfl.w, kCall, kMc2, kNew, truW, tagW, subT, addW, subW, modW, cmpW, ixW, lenW, seqW, isNon, boolsW, MO.frz, fldU, augM, augW, oB, oI, setsL, slW, wp_optI, itemsW, mulW_l', mulW_r', wp_eqI, bnd_nm, bnd_2, bnd_3, bnd_4, wipeL, ix20, ix21, ix30, ix31, ix32, List.any_cons, List.any_nil, String.reduceBEq, Bool.or_false, Bool.or_true, Bool.false_or, Bool.true_or, Bool.and_false, Bool.and_true, Bool.false_and, Bool.true_and, Bool.not_true, Bool.not_false, beq_self_eq_true, Int.reduceLT, Int.reduceLE, Int.reduceEq, Nat.reduceLT, Nat.reduceLeDiff, Nat.reduceEqDiff, decide_true, decide_false, decide_eq_true_eq, and_self, and_true, true_and, List.map_cons, List.map_nil, List.cons_append, List.nil_append, List.append_nil, List.replicate_succ, List.replicate_zero, List.length_cons, List.length_nil, List.getElem?_cons_zero, List.getElem?_cons_succ, List.set_cons_zero, List.set_cons_succ, Option.bind_some, Option.bind_none, Option.map_some, Option.map_none, Nat.reduceSub, Nat.reduceAdd, Nat.sub_self, Nat.add_zero, Nat.zero_add, ite_true, ite_false, if_true, if_false, Bool.false_eq_true, reduceCtorEq, List.take_length, rcv_join, rcv_split, rcv_find, rcv_index, rcv_indexL, rcv_count, rcv_append, rcv_extend, eqF_pp, hb, e1, whole_cut, mk_tl, g2, e2, e3]
      have d0 : dataW (.str "0") = true := by decide +kernel
      try simp -implicitDefEqProofs only [↓w_bind, ↓w_inS, ↓w_inSb, ↓w_inSs, ↓w_cons, ↓wp_nil, ↓wE_var, ↓wE_cst, ↓wE_glob, ↓wE_pr, ↓w_kAnd, ↓w_kOr, ↓wE_and, ↓wE_or, ↓wE_not, ↓w_kNot, ↓w_kIte, ↓wE_ite, ↓wE_chain, ↓w_kCh1, ↓w_kCh2, ↓w_kCh3, ↓wE_chain3, ↓w_kDh1, ↓w_kDh2, ↓w_kDh3, ↓w_kDh4, ↓w_kDh5, ↓wT_chain3, ↓wE_comp, ↓w_kComp0, ↓w_kComp2f, ↓w_kComp2t, ↓wE_call, ↓wE_meth, ↓w_kMe1, ↓w_kMe2, ↓wE_mcall, ↓w_kMc0, ↓w_kMc1, ↓wE_new, ↓wE_fld, ↓wEs_nil, ↓wEs_cons, ↓w_kEs1, ↓w_kEs2, ↓wT_and, ↓wT_or, ↓wT_not, ↓w_kTA, ↓w_kTO, ↓w_kTN, ↓wT_var, ↓wT_cst, ↓wT_pr, ↓wT_chain, ↓wT_call, ↓wT_meth, ↓wT_mcall, ↓wT_fld, ↓wC_nil, ↓wC_cons, ↓w_kC, ↓w_kCf2, ↓w_kCf3, ↓wS_expr, ↓wS_asg, ↓wS_asT, ↓w_kAsT, ↓wS_par, ↓w_kPar, ↓wS_setix, ↓w_kSx1, ↓w_kSx2, ↓w_kSx3, ↓wS_setix2, ↓w_kSy1, ↓w_kSy2, ↓w_kSy3, ↓wS_setf, ↓w_kSf1, ↓w_kSf2, ↓wS_aug, ↓w_kAu, ↓wS_ret, ↓wS_retN, ↓wS_ifs, ↓w_kIf, ↓wS_for, ↓w_kFor, ↓wS_whl, ↓wS_brk, ↓wS_cnt, ↓wS_pass, ↓wS_raise, ↓wS_thru, ↓w_itN, ↓w_itP, ↓w_truU, ↓w_truL, ↓w_p1, ↓w_p1l, ↓w_p2, ↓w_p2l, ↓w_p2r, ↓w_eq, ↓w_ne, ↓w_eql, ↓w_nel, ↓w_tup, ↓w_lst, ↓w_lstT, ↓w_frUs0, ↓w_frUs1, ↓w_frUsL, wp_ok, wp_okP, wp_bad, wp_ite, wp_nxt, wp_rdp, wp_frp, wp_some, wp_finp, wp_newU, wp_rdl', wp_setix, wp_setf, wp_updL, wp_guard, kB_ap, kM_ap, kS_nx, kS_rt, kS_bk, kS_ct, kS_ex, kX_ap, kF_rt, kF_nx, kF_ex, oW_s, oW_n, oW_i, prE, bindA, Dfl.w, kCall, kMc2, kNew, truW, tagW, subT, addW, subW, modW, cmpW, ixW, lenW, seqW, isNon, boolsW, MO.frz, fldU, augM, augW, oB, oI, setsL, slW, wp_optI, itemsW, mulW_l', mulW_r', wp_eqI, bnd_nm, bnd_2, bnd_3, bnd_4, wipeL, ix20, ix21, ix30, ix31, ix32, List.any_cons, List.any_nil, String.reduceBEq, Bool.or_false, Bool.or_true, Bool.false_or, Bool.true_or, Bool.and_false, Bool.and_true, Bool.false_and, Bool.true_and, Bool.not_true, Bool.not_false, beq_self_eq_true, Int.reduceLT, Int.reduceLE, Int.reduceEq, Nat.reduceLT, Nat.reduceLeDiff, Nat.reduceEqDiff, decide_true, decide_false, decide_eq_true_eq, and_self, and_true, true_and, List.map_cons, List.map_nil, List.cons_append, List.nil_append, List.append_nil, List.replicate_succ, List.replicate_zero, List.length_cons, List.length_nil, List.getElem?_cons_zero, List.getElem?_cons_succ, List.set_cons_zero, List.set_cons_succ, Option.bind_some, Option.bind_none, Option.map_some, Option.map_none, Nat.reduceSub, Nat.reduceAdd, Nat.sub_self, Nat.add_zero, Nat.zero_add, ite_true, ite_false, if_true, if_false, Bool.false_eq_true, reduceCtorEq, List.take_length, rcv_join, rcv_split, rcv_find, rcv_index, rcv_indexL, rcv_count, rcv_append, rcv_extend, eqF_pp, wp_eqS (sI_data (i := i)) d0]
      by_cases hz : sI i = Str.ofString "0"
      · have e4 : (sI i == Str.ofString "0") = true := by simp [hz]
        try simp -implicitDefEqProofs only [↓w_bind, ↓w_inS, ↓w_inSb, ↓w_inSs, ↓w_cons, ↓wp_nil, ↓wE_var, ↓wE_cst, ↓wE_glob, ↓wE_pr, ↓w_kAnd, ↓w_kOr, ↓wE_and, ↓wE_or, ↓wE_not, ↓w_kNot, ↓w_kIte, ↓wE_ite, ↓wE_chain, ↓w_kCh1, ↓w_kCh2, ↓w_kCh3, ↓wE_chain3, ↓w_kDh1, ↓w_kDh2, ↓w_kDh3, ↓w_kDh4, ↓w_kDh5, ↓wT_chain3, ↓wE_comp, ↓w_kComp0, ↓w_kComp2f, ↓w_kComp2t, ↓wE_call, ↓wE_meth, ↓w_kMe1, ↓w_kMe2, ↓wE_mcall, ↓w_kMc0, ↓w_kMc1, ↓wE_new, ↓wE_fld, ↓wEs_nil, ↓wEs_cons, ↓w_kEs1, ↓w_kEs2, ↓wT_and, ↓wT_or, ↓wT_not, ↓w_kTA, ↓w_kTO, ↓w_kTN, ↓wT_var, ↓wT_cst, ↓wT_pr, ↓wT_chain, ↓wT_call, ↓wT_meth, ↓wT_mcall, ↓wT_fld, ↓wC_nil, ↓wC_cons, ↓w_kC, ↓w_kCf2, ↓w_kCf3, ↓wS_expr, ↓wS_asg, ↓wS_asT, ↓w_kAsT, ↓wS_par, ↓w_kPar, ↓wS_setix, ↓w_kSx1, ↓w_kSx2, ↓w_kSx3, ↓wS_setix2, ↓w_kSy1, ↓w_kSy2, ↓w_kSy3, ↓wS_setf, ↓w_kSf1, ↓w_kSf2, ↓wS_aug, ↓w_kAu, ↓wS_ret, ↓wS_retN, ↓wS_ifs, ↓w_kIf, ↓wS_for, ↓w_kFor, ↓wS_whl, ↓wS_brk, ↓wS_cnt, ↓wS_pass, ↓wS_raise, ↓wS_thru, ↓w_itN, ↓w_itP, ↓w_truU, ↓w_truL, ↓w_p1, ↓w_p1l, ↓w_p2, ↓w_p2l, ↓w_p2r, ↓w_eq, ↓w_ne, ↓w_eql, ↓w_nel, ↓w_tup, ↓w_lst, ↓w_lstT, ↓w_frUs0, ↓w_frUs1, ↓w_frUsL, wp_ok, wp_okP, wp_bad, wp_ite, wp_nxt, wp_rdp, wp_frp, wp_some, wp_finp, wp_newU, wp_rdl', wp_setix, wp_setf, wp_updL, wp_guard, kB_ap, kM_ap, kS_nx, kS_rt, kS_bk, kS_ct, kS_ex, kX_ap, kF_rt, kF_nx, kF_ex, oW_s, oW_n, oW_i, prE, bindA, Dfl.w, kCall, kMc2, kNew, truW, tagW, subT, addW, subW, modW, cmpW, ixW, lenW, seqW, isNon, boolsW, MO.frz, fldU, augM, augW, oB, oI, setsL, slW, wp_optI, itemsW, mulW_l', mulW_r', wp_eqI, bnd_nm, bnd_2, bnd_3, bnd_4, wipeL, ix20, ix21, ix30, ix31, ix32, List.any_cons, List.any_nil, String.reduceBEq, Bool.or_false, Bool.or_true, Bool.false_or, Bool.true_or, Bool.and_false, Bool.and_true, Bool.false_and, Bool.true_and, Bool.not_true, Bool.not_false, beq_self_eq_true, Int.reduceLT, Int.reduceLE, Int.reduceEq, Nat.reduceLT, Nat.reduceLeDiff, Nat.reduceEqDiff, decide_true, decide_false, decide_eq_true_eq, and_self, and_true, true_and, List.map_cons, List.map_nil, List.cons_append, List.nil_append, List.append_nil, List.replicate_succ, List.replicate_zero, List.length_cons, List.length_nil, List.getElem?_cons_zero, List.getElem?_cons_succ, List.set_cons_zero, List.set_cons_succ, Option.bind_some, Option.bind_none, Option.map_some, Option.map_none, Nat.reduceSub, Nat.reduceAdd, Nat.sub_self, Nat.add_zero, Nat.zero_add, ite_true, ite_false, if_true, if_false, Bool.false_eq_true, reduceCtorEq, List.take_length, rcv_join, rcv_split, rcv_find, rcv_index, rcv_indexL, rcv_count, rcv_append, rcv_extend, eqF_pp, e4, intW, hl, sI_int h0 hs]
        have e5 : (sI i).length ≤ 640 := by omega
        try simp -implicitDefEqProofs only [↓w_bind, ↓w_inS, ↓w_inSb, ↓w_inSs, ↓w_cons, ↓wp_nil, ↓wE_var, ↓wE_cst, ↓wE_glob, ↓wE_pr, ↓w_kAnd, ↓w_kOr, ↓wE_and, ↓wE_or, ↓wE_not, ↓w_kNot, ↓w_kIte, ↓wE_ite, ↓wE_chain, ↓w_kCh1, ↓w_kCh2, ↓w_kCh3, ↓wE_chain3, ↓w_kDh1, ↓w_kDh2, ↓w_kDh3, ↓w_kDh4, ↓w_kDh5, ↓wT_chain3, ↓wE_comp, ↓w_kComp0, ↓w_kComp2f, ↓w_kComp2t, ↓wE_call, ↓wE_meth, ↓w_kMe1, ↓w_kMe2, ↓wE_mcall, ↓w_kMc0, ↓w_kMc1, ↓wE_new, ↓wE_fld, ↓wEs_nil, ↓wEs_cons, ↓w_kEs1, ↓w_kEs2, ↓wT_and, ↓wT_or, ↓wT_not, ↓w_kTA, ↓w_kTO, ↓w_kTN, ↓wT_var, ↓wT_cst, ↓wT_pr, ↓wT_chain, ↓wT_call, ↓wT_meth, ↓wT_mcall, ↓wT_fld, ↓wC_nil, ↓wC_cons, ↓w_kC, ↓w_kCf2, ↓w_kCf3, ↓wS_expr, ↓wS_asg, ↓wS_asT, ↓w_kAsT, ↓wS_par, ↓w_kPar, ↓wS_setix, ↓w_kSx1, ↓w_kSx2, ↓w_kSx3, ↓wS_setix2, ↓w_kSy1, ↓w_kSy2, ↓w_kSy3, ↓wS_setf, ↓w_kSf1, ↓w_kSf2, ↓wS_aug, ↓w_kAu, ↓wS_ret, ↓wS_retN, ↓wS_ifs, ↓w_kIf, ↓wS_for, ↓w_kFor, ↓wS_whl, ↓wS_brk, ↓wS_cnt, ↓wS_pass, ↓wS_raise, ↓wS_thru, ↓w_itN, ↓w_itP, ↓w_truU, ↓w_truL, ↓w_p1, ↓w_p1l, ↓w_p2, ↓w_p2l, ↓w_p2r, ↓w_eq, ↓w_ne, ↓w_eql, ↓w_nel, ↓w_tup, ↓w_lst, ↓w_lstT, ↓w_frUs0, ↓w_frUs1, ↓w_frUsL, wp_ok, wp_okP, wp_bad, wp_ite, wp_nxt, wp_rdp, wp_frp, wp_some, wp_finp, wp_newU, wp_rdl', wp_setix, wp_setf, wp_updL, wp_guard, kB_ap, kM_ap, kS_nx, kS_rt, kS_bk, kS_ct, kS_ex, kX_ap, kF_rt, kF_nx, kF_ex, oW_s, oW_n, oW_i, prE, bindA, Dfl.w, kCall, kMc2, kNew, truW, tagW, subT, addW, subW, modW, cmpW, ixW, lenW, seqW, isNon, boolsW, MO.frz, fldU, augM, augW, oB, oI, setsL, slW, wp_optI, itemsW, mulW_l', mulW_r', wp_eqI, bnd_nm, bnd_2, bnd_3, bnd_4, wipeL, ix20, ix21, ix30, ix31, ix32, List.any_cons, List.any_nil, String.reduceBEq, Bool.or_false, Bool.or_true, Bool.false_or, Bool.true_or, Bool.and_false, Bool.and_true, Bool.false_and, Bool.true_and, Bool.not_true, Bool.not_false, beq_self_eq_true, Int.reduceLT, Int.reduceLE, Int.reduceEq, Nat.reduceLT, Nat.reduceLeDiff, Nat.reduceEqDiff, decide_true, decide_false, decide_eq_true_eq, and_self, and_true, true_and, List.map_cons, List.map_nil, List.cons_append, List.nil_append, List.append_nil, List.replicate_succ, List.replicate_zero, List.length_cons, List.length_nil, List.getElem?_cons_zero, List.getElem?_cons_succ, List.set_cons_zero, List.set_cons_succ, Option.bind_some, Option.bind_none, Option.map_some, Option.map_none, Nat.reduceSub, Nat.reduceAdd, Nat.sub_self, Nat.add_zero, Nat.zero_add, ite_true, ite_false, if_true, if_false, Bool.false_eq_true, reduceCtorEq, List.take_length, rcv_join, rcv_split, rcv_find, rcv_index, rcv_indexL, rcv_count, rcv_append, rcv_extend, eqF_pp, e5]
        all_goals try first | rfl | exact ⟨_, rfl⟩ | exact ⟨rfl, take_all rfl⟩ | exact ⟨_, rfl, by simp⟩ | exact ⟨_, _, rfl⟩ | exact ⟨_, _, _, rfl⟩ | exact ⟨_, _, _, _, rfl⟩ | exact ⟨rfl, _, rfl⟩ | exact ⟨rfl, _, _, rfl⟩ | exact ⟨rfl, _, _, _, rfl⟩ | exact ⟨rfl, _, _, _, _, rfl⟩
      · have e4 : (sI i == Str.ofString "0") = false := by simp [hz]
        obtain ⟨c, r, e6, hc⟩ := sI_head h0 hz
        have i0 : ixAt (sI i).length 0 = some 0 := ixN_ok (k := 0) (sI_len0 h0)
        have e7 : (sI i).cps.toList[0]? = some c := by rw [e6]; rfl
        have hr := sI_dig h0 (c := c) (by rw [e6]; simp)
        have d1 : dataW (.str ⟨#[c]⟩) = true := chr_data (by omega)
        have e8 : ((⟨#[c]⟩ : Str) == Str.ofString "0") = false := by
          have e9 : Str.ofString "0" = ⟨#[48]⟩ := by decide +kernel
          rw [e9]
          simp [hc]
        have e5 : (sI i).length ≤ 640 := by omega
        try simp -implicitDefEqProofs only [↓w_bind, ↓w_inS, ↓w_inSb, ↓w_inSs, ↓w_cons, ↓wp_nil, ↓wE_var, ↓wE_cst, ↓wE_glob, ↓wE_pr, ↓w_kAnd, ↓w_kOr, ↓wE_and, ↓wE_or, ↓wE_not, ↓w_kNot, ↓w_kIte, ↓wE_ite, ↓wE_chain, ↓w_kCh1, ↓w_kCh2, ↓w_kCh3, ↓wE_chain3, ↓w_kDh1, ↓w_kDh2, ↓w_kDh3, ↓w_kDh4, ↓w_kDh5, ↓wT_chain3, ↓wE_comp, ↓w_kComp0, ↓w_kComp2f, ↓w_kComp2t, ↓wE_call, ↓wE_meth, ↓w_kMe1, ↓w_kMe2, ↓wE_mcall, ↓w_kMc0, ↓w_kMc1, ↓wE_new, ↓wE_fld, ↓wEs_nil, ↓wEs_cons, ↓w_kEs1, ↓w_kEs2, ↓wT_and, ↓wT_or, ↓wT_not, ↓w_kTA, ↓w_kTO, ↓w_kTN, ↓wT_var, ↓wT_cst, ↓wT_pr, ↓wT_chain, ↓wT_call, ↓wT_meth, ↓wT_mcall, ↓wT_fld, ↓wC_nil, ↓wC_cons, ↓w_kC, ↓w_kCf2, ↓w_kCf3, ↓wS_expr, ↓wS_asg, ↓wS_asT, ↓w_kAsT, ↓wS_par, ↓w_kPar, ↓wS_setix, ↓w_kSx1, ↓w_kSx2, ↓w_kSx3, ↓wS_setix2, ↓w_kSy1, ↓w_kSy2, ↓w_kSy3, ↓wS_setf, ↓w_kSf1, ↓w_kSf2, ↓wS_aug, ↓w_kAu, ↓wS_ret, ↓wS_retN, ↓wS_ifs, ↓w_kIf, ↓wS_for, ↓w_kFor, ↓wS_whl, ↓wS_brk, ↓wS_cnt, ↓wS_pass, ↓wS_raise, ↓wS_thru, ↓w_itN, ↓w_itP, ↓w_truU, ↓w_truL, ↓w_p1, ↓w_p1l, ↓w_p2, ↓w_p2l, ↓w_p2r, ↓w_eq, ↓w_ne, ↓w_eql, ↓w_nel, ↓w_tup, ↓w_lst, ↓w_lstT, ↓w_frUs0, ↓w_frUs1, ↓w_frUsL, wp_ok, wp_okP, wp_bad, wp_ite, wp_nxt, wp_rdp, wp_frp, wp_some, wp_finp, wp_newU, wp_rdl', wp_setix, wp_setf, wp_updL, wp_guard, kB_ap, kM_ap, kS_nx, kS_rt, kS_bk, kS_ct, kS_ex, kX_ap, kF_rt, kF_nx, kF_ex, oW_s, oW_n, oW_i, prE, bindA, Dfl.w, kCall, kMc2, kNew, truW, tagW, subT, addW, subW, modW, cmpW, ixW, lenW, seqW, isNon, boolsW, MO.frz, fldU, augM, augW, oB, oI, setsL, slW, wp_optI, itemsW, mulW_l', mulW_r', wp_eqI, bnd_nm, bnd_2, bnd_3, bnd_4, wipeL, ix20, ix21, ix30, ix31, ix32, List.any_cons, List.any_nil, String.reduceBEq, Bool.or_false, Bool.or_true, Bool.false_or, Bool.true_or, Bool.and_false, Bool.and_true, Bool.false_and, Bool.true_and, Bool.not_true, Bool.not_false, beq_self_eq_true, Int.reduceLT, Int.reduceLE, Int.reduceEq, Nat.reduceLT, Nat.reduceLeDiff, Nat.reduceEqDiff, decide_true, decide_false, decide_eq_true_eq, and_self, and_true, true_and, List.map_cons, List.map_nil, List.cons_append, List.nil_append, List.append_nil, List.replicate_succ, List.replicate_zero, List.length_cons, List.length_nil, List.getElem?_cons_zero, List.getElem?_cons_succ, List.set_cons_zero, List.set_cons_succ, Option.bind_some, Option.bind_none, Option.map_some, Option.map_none, Nat.reduceSub, Nat.reduceAdd, Nat.sub_self, Nat.add_zero, Nat.zero_add, ite_true, ite_false, if_true, if_false, Bool.false_eq_true, reduceCtorEq, List.take_length, rcv_join, rcv_split, rcv_find, rcv_index, rcv_indexL, rcv_count, rcv_append, rcv_extend, eqF_pp, e4, hb, i0, e7, wp_eqS d1 d0, e8, intW, e5, sI_int h0 hs]
        all_goals try first | rfl | exact ⟨_, rfl⟩ | exact ⟨rfl, take_all rfl⟩ | exact ⟨_, rfl, by simp⟩ | exact ⟨_, _, rfl⟩ | exact ⟨_, _, _, rfl⟩ | exact ⟨_, _, _, _, rfl⟩ | exact ⟨rfl, _, rfl⟩ | exact ⟨rfl, _, _, rfl⟩ | exact ⟨rfl, _, _, _, rfl⟩ | exact ⟨rfl, _, _, _, _, rfl⟩
theorem numbers_of_eq {k : Nat} {is : List Int} (h : ∀ i ∈ is, 0 ≤ i ∧ (sI i).length ≤ 31 ∧ shI i) (hn : is.length ≤ 1000) : callM P (k + 2) "numbers_of" [.p (.lst ((is.map sI).map W.str))] = okP (.tup (iW is)) := by
  refine eq_of_wp fun S => w_call fn_numbers_of rfl ?_
  simp only [b_numbers_of]
  try simp -implicitDefEqProofs only [↓w_bind, ↓w_inS, ↓w_inSb, ↓w_inSs, ↓w_cons, ↓wp_nil, ↓wE_var, ↓wE_cst, ↓wE_glob, ↓wE_pr, ↓w_kAnd, ↓w_kOr, ↓wE_and, ↓wE_or, ↓wE_not, ↓w_kNot, ↓w_kIte, ↓wE_ite, ↓wE_chain, ↓w_kCh1, ↓w_kCh2, ↓w_kCh3, ↓wE_chain3, ↓w_kDh1, ↓w_kDh2, ↓w_kDh3, ↓w_kDh4, ↓w_kDh5, ↓wT_chain3, ↓wE_comp, ↓w_kComp0, ↓w_kComp2f, ↓w_kComp2t, ↓wE_call, ↓wE_meth, ↓w_kMe1, ↓w_kMe2, ↓wE_mcall, ↓w_kMc0, ↓w_kMc1, ↓wE_new, ↓wE_fld, ↓wEs_nil, ↓wEs_cons, ↓w_kEs1, ↓w_kEs2, ↓wT_and, ↓wT_or, ↓wT_not, ↓w_kTA, ↓w_kTO, ↓w_kTN, ↓wT_var, ↓wT_cst, ↓wT_pr, ↓wT_chain, ↓wT_call, ↓wT_meth, ↓wT_mcall, ↓wT_fld, ↓wC_nil, ↓wC_cons, ↓w_kC, ↓w_kCf2, ↓w_kCf3, ↓wS_expr, ↓wS_asg, ↓wS_asT, ↓w_kAsT, ↓wS_par, ↓w_kPar, ↓wS_setix, ↓w_kSx1, ↓w_kSx2, ↓w_kSx3, ↓wS_setix2, ↓w_kSy1, ↓w_kSy2, ↓w_kSy3, ↓wS_setf, ↓w_kSf1, ↓w_kSf2, ↓wS_aug, ↓w_kAu, ↓wS_ret, ↓wS_retN, ↓wS_ifs, ↓w_kIf, ↓wS_for, ↓w_kFor, ↓wS_whl, ↓wS_brk, ↓wS_cnt, ↓wS_pass, ↓wS_raise, ↓wS_thru, ↓w_itN, ↓w_itP, ↓w_truU, ↓w_truL, ↓w_p1, ↓w_p1l, ↓w_p2, ↓w_p2l, ↓w_p2r, ↓w_eq, ↓w_ne, ↓w_eql, ↓w_nel, ↓w_tup, ↓w_lst, ↓w_lstT, ↓w_frUs0, ↓w_frUs1, ↓w_frUsL, wp_ok, wp_okP, wp_bad, wp_ite, wp_nxt, wp_rdp, wp_frp, wp_some, wp_finp, wp_newU, wp_rdl', wp_setix, wp_setf, wp_updL, wp_guard, kB_ap, kM_ap, kS_nx, kS_rt, kS_bk, kS_ct, kS_ex, kX_ap, kF_rt, kF_nx, kF_ex, oW_s, oW_n, oW_i, prE, bindA, Dfl.w, kCall, kMc2, kNew, truW, tagW, subT, addW, subW, modW, cmpW, ixW, lenW, seqW, isNon, boolsW, MO.frz, fldU, augM, augW, oB, oI, setsL, slW, wp_optI, itemsW, mulW_l', mulW_r', wp_eqI, bnd_nm, bnd_2, bnd_3, bnd_4, wipeL, ix20, ix21, ix30, ix31, ix32, List.any_cons, List.any_nil, String.reduceBEq, Bool.or_false, Bool.or_true, Bool.false_or, Bool.true_or, Bool.and_false, Bool.and_true, Bool.false_and, Bool.true_and, Bool.not_true, Bool.not_false, beq_self_eq_true, Int.reduceLT, Int.reduceLE, Int.reduceEq, Nat.reduceLT, Nat.reduceLeDiff, Nat.reduceEqDiff, decide_true, decide_false, decide_eq_true_eq, and_self, and_true, true_and, List.map_cons, List.map_nil, List.cons_append, List.nil_append, List.append_nil, List.replicate_succ, List.replicate_zero, List.length_cons, List.length_nil, List.getElem?_cons_zero, List.getElem?_cons_succ, List.set_cons_zero, List.set_cons_succ, Option.bind_some, Option.bind_none, Option.map_some, Option.map_none, Nat.reduceSub, Nat.reduceAdd, Nat.sub_self, Nat.add_zero, Nat.zero_add, ite_true, ite_false, if_true, if_false, Bool.false_eq_true, reduceCtorEq, List.take_length, rcv_join, rcv_split, rcv_find, rcv_index, rcv_indexL, rcv_count, rcv_append, rcv_extend, eqF_pp]
  refine wp_forL (I := fun j τ S' => j ≤ is.length ∧ S' = S ++ [some (.lst (iW (is.take j)))] ∧ ∃ a b c, τ = [some (.p (.lst ((is.map sI).map W.str))), some (.loc S.length), a, b, c]) ⟨by omega, rfl, _, _, _, rfl⟩ ?_ ?_
  · rintro j w τ S' hw ⟨hj, rfl, a, b, c, rfl⟩
    rw [List.map_map, List.getElem?_map, Option.map_eq_some_iff] at hw
    obtain ⟨i, hi, rfl⟩ := hw
    obtain ⟨h0, hl, hs⟩ := h i (List.mem_of_getElem? hi)
    refine ⟨_, bnd_nm, ?_⟩
    have hb : (sI i).length ≤ bigLine := by simp only [bigLine]; omega
    have e0 : (((sI i).length : Int) == ((sI i).length : Int)) = true := by simp
    have hlt : j < is.length := by
      have := List.getElem?_eq_some_iff.mp hi
      exact this.1
    have e1 : is.take (j + 1) = is.take j ++ [i] := by
      rw [List.take_add_one, hi]
      rfl
    have e2 : (iW (is.take j)).length + 1 ≤ bigLine := by simp only [bigLine, List.length_map, List.length_take]; omega
    simp only [Function.comp]
    try simp -implicitDefEqProofs only [↓w_bind, ↓w_inS, ↓w_inSb, ↓w_inSs, ↓w_cons, ↓wp_nil, ↓wE_var, ↓wE_cst, ↓wE_glob, ↓wE_pr, ↓w_kAnd, ↓w_kOr, ↓wE_and, ↓wE_or, ↓wE_not, ↓w_kNot, ↓w_kIte, ↓wE_ite, ↓wE_chain, ↓w_kCh1, ↓w_kCh2, ↓w_kCh3, ↓wE_chain3, ↓w_kDh1, ↓w_kDh2, ↓w_kDh3, ↓w_kDh4, ↓w_kDh5, ↓wT_chain3, ↓wE_comp, ↓w_kComp0, ↓w_kComp2f, ↓w_kComp2t, ↓wE_call, ↓wE_meth, ↓w_kMe1, ↓w_kMe2, ↓wE_mcall, ↓w_kMc0, ↓w_kMc1, ↓wE_new, ↓wE_fld, ↓wEs_nil, ↓wEs_cons, ↓w_kEs1, ↓w_kEs2, ↓wT_and, ↓wT_or, ↓wT_not, ↓w_kTA, ↓w_kTO, ↓w_kTN, ↓wT_var, ↓wT_cst, ↓wT_pr, ↓wT_chain, ↓wT_call, ↓wT_meth, ↓wT_mcall, ↓wT_fld, ↓wC_nil, ↓wC_cons, ↓w_kC, ↓w_kCf2, ↓w_kCf3, ↓wS_expr, ↓wS_asg, ↓wS_asT, ↓w_kAsT, ↓wS_par, ↓w_kPar, ↓wS_setix, ↓w_kSx1, ↓w_kSx2, ↓w_kSx3, ↓wS_setix2, ↓w_kSy1, ↓w_kSy2, ↓w_kSy3, ↓wS_setf, ↓w_kSf1, ↓w_kSf2, ↓wS_aug, ↓w_kAu, ↓wS_ret, ↓wS_retN, ↓wS_ifs, ↓w_kIf, ↓wS_for, ↓w_kFor, ↓wS_whl, ↓wS_brk, ↓wS_cnt, ↓wS_pass, ↓wS_raise, ↓wS_thru, ↓w_itN, ↓w_itP, ↓w_truU, ↓w_truL, ↓w_p1, ↓w_p1l, ↓w_p2, ↓w_p2l, ↓w_p2r, ↓w_eq, ↓w_ne, ↓w_eql, ↓w_nel, ↓w_tup, ↓w_lst, ↓w_lstT, ↓w_frUs0, ↓w_frUs1, ↓w_frUsL, wp_ok, wp_okP, wp_bad, wp_ite, wp_nxt, wp_rdp, wp_frp, wp_some, wp_finp, wp_newU, wp_rdl', wp_setix, wp_setf, wp_updL, wp_guard, kB_ap, kM_ap, kS_nx, kS_rt, kS_bk, kS_ct, kS_ex, kX_ap, kF_rt, kF_nx, kF_ex, oW_s, oW_n, oW_i, prE, bindA, Dfl.w, kCall, kMc2, kNew, truW, tagW, subT, addW, subW, modW, cmpW, ixW, lenW, seqW, isNon, boolsW, MO.frz, fldU, augM, augW, oB, oI, setsL, slW, wp_optI, itemsW, mulW_l', mulW_r', wp_eqI, bnd_nm, bnd_2, bnd_3, bnd_4, wipeL, ix20, ix21, ix30, ix31, ix32, List.any_cons, List.any_nil, String.reduceBEq, Bool.or_false, Bool.or_true, Bool.false_or, Bool.true_or, Bool.and_false, Bool.and_true, Bool.false_and, Bool.true_and, Bool.not_true, Bool.not_false, beq_self_eq_true, Int.reduceLT, Int.reduceLE, Int.reduceEq, Nat.reduceLT, Nat.reduceLeDiff, Nat.reduceEqDiff, decide_true, decide_false, decide_eq_true_eq, and_self, and_true, true_and, List.map_cons, List.map_nil, List.cons_append, List.nil_append, List.append_nil, List.replicate_succ, List.replicate_zero, List.length_cons, List.length_nil, List.getElem?_cons_zero, List.getElem?_cons_succ, List.set_cons_zero, List.set_cons_succ, Option.bind_some, Option.bind_none, Option.map_some, Option.map_none, Nat.reduceSub, Nat.reduceAdd, Nat.sub_self, Nat.add_zero, Nat.zero_add, ite_true, ite_false, if_true, if_false, Bool.false_eq_true, reduceCtorEq, List.take_length, rcv_join, rcv_split, rcv_find, rcv_index, rcv_indexL, rcv_count, rcv_append, rcv_extend, eqF_pp, read_number_eq h0 hl hs, hb, wp_eqI, e0, app_get, app_set, List.length_append, e2]
    refine ⟨by omega, ?_, _, _, _, rfl⟩
    rw [e1]
    simp [iW]
  · rintro τ S' ⟨hj, rfl, a, b, c, rfl⟩
    try simp -implicitDefEqProofs only [↓w_bind, ↓w_inS, ↓w_inSb, ↓w_inSs, ↓w_cons, ↓wp_nil, ↓wE_var, ↓wE_cst, ↓wE_glob, ↓wE_pr, ↓w_kAnd, ↓w_kOr, ↓wE_and, ↓wE_or, ↓wE_not, ↓w_kNot, ↓w_kIte, ↓wE_ite, ↓wE_chain, ↓w_kCh1, ↓w_kCh2, ↓w_kCh3, ↓wE_chain3, ↓w_kDh1, ↓w_kDh2, ↓w_kDh3, ↓w_kDh4, ↓w_kDh5, ↓wT_chain3, ↓wE_comp, ↓w_kComp0, ↓w_kComp2f, ↓w_kComp2t, ↓wE_call, ↓wE_meth, ↓w_kMe1, ↓w_kMe2, ↓wE_mcall, ↓w_kMc0, ↓w_kMc1, ↓wE_new, ↓wE_fld, ↓wEs_nil, ↓wEs_cons, ↓w_kEs1, ↓w_kEs2, ↓wT_and, ↓wT_or, ↓wT_not, ↓w_kTA, ↓w_kTO, ↓w_kTN, ↓wT_var, ↓wT_cst, ↓wT_pr, ↓wT_chain, ↓wT_call, ↓wT_meth, ↓wT_mcall, ↓wT_fld, ↓wC_nil, ↓wC_cons, ↓w_kC, ↓w_kCf2, ↓w_kCf3, ↓wS_expr, ↓wS_asg, ↓wS_asT, ↓w_kAsT, ↓wS_par, ↓w_kPar, ↓wS_setix, ↓w_kSx1, ↓w_kSx2, ↓w_kSx3, ↓wS_setix2, ↓w_kSy1, ↓w_kSy2, ↓w_kSy3, ↓wS_setf, ↓w_kSf1, ↓w_kSf2, ↓wS_aug, ↓w_kAu, ↓wS_ret, ↓wS_retN, ↓wS_ifs, ↓w_kIf, ↓wS_for, ↓w_kFor, ↓wS_whl, ↓wS_brk, ↓wS_cnt, ↓wS_pass, ↓wS_raise, ↓wS_thru, ↓w_itN, ↓w_itP, ↓w_truU, ↓w_truL, ↓w_p1, ↓w_p1l, ↓w_p2, ↓w_p2l, ↓w_p2r, ↓w_eq, ↓w_ne, ↓w_eql, ↓w_nel, ↓w_tup, ↓w_lst, ↓w_lstT, ↓w_frUs0, ↓w_frUs1, ↓w_frUsL, wp_ok, wp_okP, wp_bad, wp_ite, wp_nxt, wp_rdp, wp_frp, wp_some, wp_finp, wp_newU, wp_rdl', wp_setix, wp_setf, wp_updL, wp_guard, kB_ap, kM_ap, kS_nx, kS_rt, kS_bk, kS_ct, kS_ex, kX_ap, kF_rt, kF_nx, kF_ex, oW_s, oW_n, oW_i, prE, bindA, Dfl.w, kCall, kMc2, kNew, truW, tagW, subT, addW, subW, modW, cmpW, ixW, lenW, seqW, isNon, boolsW, MO.frz, fldU, augM, augW, oB, oI, setsL, slW, wp_optI, itemsW, mulW_l', mulW_r', wp_eqI, bnd_nm, bnd_2, bnd_3, bnd_4, wipeL, ix20, ix21, ix30, ix31, ix32, List.any_cons, List.any_nil, String.reduceBEq, Bool.or_false, Bool.or_true, Bool.false_or, Bool.true_or, Bool.and_false, Bool.and_true, Bool.false_and, Bool.true_and, Bool.not_true, Bool.not_false, beq_self_eq_true, Int.reduceLT, Int.reduceLE, Int.reduceEq, Nat.reduceLT, Nat.reduceLeDiff, Nat.reduceEqDiff, decide_true, decide_false, decide_eq_true_eq, and_self, and_true, true_and, List.map_cons, List.map_nil, List.cons_append, List.nil_append, List.append_nil, List.replicate_succ, List.replicate_zero, List.length_cons, List.length_nil, List.getElem?_cons_zero, List.getElem?_cons_succ, List.set_cons_zero, List.set_cons_succ, Option.bind_some, Option.bind_none, Option.map_some, Option.map_none, Nat.reduceSub, Nat.reduceAdd, Nat.sub_self, Nat.add_zero, Nat.zero_add, ite_true, ite_false, if_true, if_false, Bool.false_eq_true, reduceCtorEq, List.take_length, rcv_join, rcv_split, rcv_find, rcv_index, rcv_indexL, rcv_count, rcv_append, rcv_extend, eqF_pp, app_get, app_take, List.length_map]
    all_goals try first | rfl | exact take_all rfl | exact ⟨rfl, take_all rfl⟩
end L_k05
end
section
set_option Elab.async false
set_option linter.all false
set_option maxHeartbeats 2000000
set_option maxRecDepth 100000
namespace L_k05
open PySem Pm
theorem sI_small {i : Int} (h : 0 ≤ i) (h2 : i ≤ 1000000) : 0 ≤ i ∧ (sI i).length ≤ 31 ∧ shI i :=
  ⟨h, Nat.le_trans (W.KT.len_num h (Int.lt_of_le_of_lt h2 (by decide))) (by decide), shI_small h h2⟩
section
variable {n : Int} {ls ws ps : List Int}
theorem RF.gl (f : RF n ls ws ps) : ∀ i ∈ ls, 0 ≤ i ∧ (sI i).length ≤ 31 ∧ shI i := fun i hi => sI_small (f.ls.mem hi).1 (by have := (f.ls.mem hi).2; have := f.n12; omega)
theorem RF.gw (f : RF n ls ws ps) : ∀ i ∈ ws, 0 ≤ i ∧ (sI i).length ≤ 31 ∧ shI i := fun i hi => sI_small (f.ws.mem hi).1 (by have := (f.ws.mem hi).2; have := f.n12; omega)
theorem RF.gp (f : RF n ls ws ps) : ∀ i ∈ ps, 0 ≤ i ∧ (sI i).length ≤ 31 ∧ shI i := fun i hi => sI_small (by have := (f.ps i hi).1; omega) (by have := (f.ps i hi).2; omega)
theorem RF.gn (f : RF n ls ws ps) : ∀ i ∈ [n], 0 ≤ i ∧ (sI i).length ≤ 31 ∧ shI i := fun i hi => by
  simp only [List.mem_singleton] at hi
  subst hi
  exact sI_small (by have := f.n2; omega) (by have := f.n12; omega)
theorem RF.slen (f : RF n ls ws ps) : (ringS n ls ws ps).length ≤ bigLine := by
  unfold ringS
  rw [join_eq]
  exact Nat.le_trans (StrLaws.join_length_le _ _) f.line
theorem ringL_split (f : RF n ls ws ps) : Txt.split (ringS n ls ws ps) (Str.ofString " ") = ringL n ls ws ps := by
  refine split_line (by simp [ringL]) (ringL_all (by decide +kernel) (by decide +kernel) (by decide +kernel) (by decide +kernel) ?_ ?_ ?_ ?_)
  · intro h; have := sI_dig (f.gn n (by simp)).1 h; omega
  · intro i hi h; have := sI_dig (f.gl i hi).1 h; omega
  · intro i hi h; have := sI_dig (f.gw i hi).1 h; omega
  · intro i hi h; have := sI_dig (f.gp i hi).1 h; omega
theorem tlL : (Str.ofString "locks").cps.toList = [108, 111, 99, 107, 115] := by decide +kernel
theorem tlW : (Str.ofString "walls").cps.toList = [119, 97, 108, 108, 115] := by decide +kernel
theorem tlP : (Str.ofString "prices").cps.toList = [112, 114, 105, 99, 101, 115] := by decide +kernel
theorem ringL_cnt (f : RF n ls ws ps) : (ringL n ls ws ps).count (Str.ofString "locks") = 1 ∧ (ringL n ls ws ps).count (Str.ofString "walls") = 1 ∧ (ringL n ls ws ps).count (Str.ofString "prices") = 1 := by
  have c : ∀ {w : Str} {c : Nat} {r : List Nat}, w.cps.toList = c :: r → 57 < c → (ls.map sI).count w = 0 ∧ (ws.map sI).count w = 0 ∧ (ps.map sI).count w = 0 ∧ sI n ≠ w := fun e h =>
    ⟨count_sI (fun i hi => (f.gl i hi).1) e h, count_sI (fun i hi => (f.gw i hi).1) e h, count_sI (fun i hi => (f.gp i hi).1) e h, sI_not (f.gn n (by simp)).1 e h⟩
  obtain ⟨a1, a2, a3, a4⟩ := c tlL (by decide)
  obtain ⟨b1, b2, b3, b4⟩ := c tlW (by decide)
  obtain ⟨c1, c2, c3, c4⟩ := c tlP (by decide)
  have d1 : (Str.ofString "ring" == Str.ofString "locks") = false := by decide +kernel
  have d2 : (Str.ofString "ring" == Str.ofString "walls") = false := by decide +kernel
  have d3 : (Str.ofString "ring" == Str.ofString "prices") = false := by decide +kernel
  have d4 : (Str.ofString "locks" == Str.ofString "walls") = false := by decide +kernel
  have d5 : (Str.ofString "locks" == Str.ofString "prices") = false := by decide +kernel
  have d6 : (Str.ofString "walls" == Str.ofString "locks") = false := by decide +kernel
  have d7 : (Str.ofString "walls" == Str.ofString "prices") = false := by decide +kernel
  have d8 : (Str.ofString "prices" == Str.ofString "locks") = false := by decide +kernel
  have d9 : (Str.ofString "prices" == Str.ofString "walls") = false := by decide +kernel
  have s1 : (sI n == Str.ofString "locks") = false := by simp [a4]
  have s2 : (sI n == Str.ofString "walls") = false := by simp [b4]
  have s3 : (sI n == Str.ofString "prices") = false := by simp [c4]
  refine ⟨?_, ?_, ?_⟩ <;> simp only [ringL, List.count_append, List.count_cons, List.count_nil, a1, a2, a3, b1, b2, b3, c1, c2, c3, d1, d2, d3, d4, d5, d6, d7, d8, d9, s1, s2, s3, beq_self_eq_true, if_true, Bool.false_eq_true, if_false, Nat.zero_add, Nat.add_zero]
theorem eqW_sI {i : Int} (h : 0 ≤ i) {w : Str} {c : Nat} {r : List Nat} (e : w.cps.toList = c :: r) (hc : 57 < c) : eqW (.str (sI i)) (.str w) = false := by
  simp [eqW, sI_not h e hc]
theorem ringL_map : (ringL n ls ws ps).map W.str = [.str "ring", .str (sI n)] ++ (.str "locks" :: (ls.map sI).map W.str ++ (.str "walls" :: (ws.map sI).map W.str ++ (.str "prices" :: (ps.map sI).map W.str))) := by
  simp only [ringL, List.map_append, List.map_cons, List.map_nil, List.cons_append, List.nil_append, List.append_assoc]
theorem ringL_ixL (f : RF n ls ws ps) : eqIx ((ringL n ls ws ps).map W.str) (.str "locks") = some 2 := by
  rw [ringL_map]
  refine eqIx_skip ?_ (eqIx_hit (by simp [eqW]))
  simp only [List.forall_mem_cons]
  exact ⟨by decide +kernel, eqW_sI (f.gn n (by simp)).1 tlL (by decide), by simp⟩
theorem sI_skip {is : List Int} (h : ∀ i ∈ is, 0 ≤ i) {w : Str} {c : Nat} {r : List Nat} (e : w.cps.toList = c :: r) (hc : 57 < c) : ∀ x ∈ (is.map sI).map W.str, eqW x (.str w) = false := by
  simp only [List.forall_mem_map]
  exact fun i hi => eqW_sI (h i hi) e hc
theorem ringL_ixW (f : RF n ls ws ps) : eqIx ((ringL n ls ws ps).map W.str) (.str "walls") = some (3 + ls.length) := by
  rw [ringL_map]
  have e1 := eqIx_skip (xs := .str "locks" :: (ls.map sI).map W.str) (ys := .str "walls" :: (ws.map sI).map W.str ++ (.str "prices" :: (ps.map sI).map W.str)) (w := .str "walls") (k := 0) (by
    simp only [List.forall_mem_cons]
    exact ⟨by decide +kernel, sI_skip (fun i hi => (f.gl i hi).1) tlW (by decide)⟩) (eqIx_hit (by simp [eqW]))
  rw [eqIx_skip ?_ e1]
  · simp only [List.length_cons, List.length_nil, List.length_map, Option.some.injEq]; omega
  · simp only [List.forall_mem_cons]
    exact ⟨by decide +kernel, eqW_sI (f.gn n (by simp)).1 tlW (by decide), by simp⟩
theorem ringL_ixP (f : RF n ls ws ps) : eqIx ((ringL n ls ws ps).map W.str) (.str "prices") = some (4 + ls.length + ws.length) := by
  rw [ringL_map]
  have e0 := eqIx_skip (xs := .str "walls" :: (ws.map sI).map W.str) (ys := .str "prices" :: (ps.map sI).map W.str) (w := .str "prices") (k := 0) (by
    simp only [List.forall_mem_cons]
    exact ⟨by decide +kernel, sI_skip (fun i hi => (f.gw i hi).1) tlP (by decide)⟩) (eqIx_hit (by simp [eqW]))
  have e1 := eqIx_skip (xs := .str "locks" :: (ls.map sI).map W.str) (by
    simp only [List.forall_mem_cons]
    exact ⟨by decide +kernel, sI_skip (fun i hi => (f.gl i hi).1) tlP (by decide)⟩) e0
  rw [eqIx_skip ?_ e1]
  · simp only [List.length_cons, List.length_nil, List.length_map, Option.some.injEq]; omega
  · simp only [List.forall_mem_cons]
    exact ⟨by decide +kernel, eqW_sI (f.gn n (by simp)).1 tlP (by decide), by simp⟩
theorem ringL_len : (ringL n ls ws ps).length = 5 + ls.length + ws.length + ps.length := by
  simp only [ringL, List.length_append, List.length_cons, List.length_nil, List.length_map]; omega
theorem cut_ab {α : Type} {A B C : List α} {a b : Int} (ha : a = (A.length : Int)) (hb : b = (A.length : Int) + (B.length : Int)) : cutL (A ++ (B ++ C)) (some a) (some b) = B := by
  subst ha
  have hb' : b = ((A.length + B.length : Nat) : Int) := by omega
  subst hb'
  unfold cutL
  rw [HT.sIx_nat, HT.sIx_nat, List.length_append, List.length_append, Nat.min_eq_left (by omega), Nat.min_eq_left (by omega), List.drop_left, Nat.add_sub_cancel_left, List.take_left]
theorem cut_a {α : Type} {A B : List α} {a : Int} (ha : a = (A.length : Int)) : cutL (A ++ B) (some a) none = B := by
  subst ha
  rw [cut_from, List.drop_left]
theorem ringL_c1 : cutL ((ringL n ls ws ps).map W.str) (some 1) (some 2) = [.str (sI n)] := by
  rw [ringL_map]
  exact cut_ab (A := [W.str "ring"]) (B := [W.str (sI n)]) rfl rfl
theorem ringL_c2 : cutL ((ringL n ls ws ps).map W.str) (some 3) (some (3 + (ls.length : Int))) = (ls.map sI).map W.str := by
  rw [ringL_map]
  exact cut_ab (A := [W.str "ring", .str (sI n), .str "locks"]) (B := (ls.map sI).map W.str) rfl (by simp only [List.length_cons, List.length_nil, List.length_map]; omega)
theorem ringL_c3 : cutL ((ringL n ls ws ps).map W.str) (some (3 + (ls.length : Int) + 1)) (some (4 + (ls.length : Int) + (ws.length : Int))) = (ws.map sI).map W.str := by
  rw [ringL_map]
  have := cut_ab (A := [W.str "ring", .str (sI n), .str "locks"] ++ (ls.map sI).map W.str ++ [.str "walls"]) (B := (ws.map sI).map W.str) (C := .str "prices" :: (ps.map sI).map W.str) (a := 3 + (ls.length : Int) + 1) (b := 4 + (ls.length : Int) + (ws.length : Int)) (by simp only [List.length_append, List.length_cons, List.length_nil, List.length_map]; omega) (by simp only [List.length_append, List.length_cons, List.length_nil, List.length_map]; omega)
  simpa only [List.cons_append, List.nil_append, List.append_assoc] using this
theorem ringL_c4 : cutL ((ringL n ls ws ps).map W.str) (some (4 + (ls.length : Int) + (ws.length : Int) + 1)) none = (ps.map sI).map W.str := by
  rw [ringL_map]
  have := cut_a (A := [W.str "ring", .str (sI n), .str "locks"] ++ (ls.map sI).map W.str ++ [.str "walls"] ++ (ws.map sI).map W.str ++ [.str "prices"]) (B := (ps.map sI).map W.str) (a := 4 + (ls.length : Int) + (ws.length : Int) + 1) (by simp only [List.length_append, List.length_cons, List.length_nil, List.length_map]; omega)
  simpa only [List.cons_append, List.nil_append, List.append_assoc] using this
end
end L_k05
end
section
set_option Elab.async false
set_option linter.all false
set_option maxHeartbeats 2000000
set_option maxRecDepth 100000
namespace L_k05
open PySem Pm
theorem read_ring_eq {k : Nat} {n : Int} {ls ws ps : List Int} (f : RF n ls ws ps) : callM P (k + 4) "read_ring" [.p (.str (ringS n ls ws ps))] = okP (ringW n ls ws (iW ps)) := by
  refine eq_of_wp fun S => w_call fn_read_ring rfl ?_
  simp only [b_read_ring]
  have e0 := f.slen
  have e1 := ringL_split f
  obtain ⟨c1, c2, c3⟩ := ringL_cnt f
  have hlen := ringL_len (n := n) (ls := ls) (ws := ws) (ps := ps)
  have i1 : (eqIx ((ringL n ls ws ps).map W.str) (.str "locks")).map (fun (k : Nat) => W.int (k : Int)) = some (.int 2) := by rw [ringL_ixL f]; rfl
  have i2 : (eqIx ((ringL n ls ws ps).map W.str) (.str "walls")).map (fun (k : Nat) => W.int (k : Int)) = some (.int (3 + (ls.length : Int))) := by rw [ringL_ixW f]; simp
  have i3 : (eqIx ((ringL n ls ws ps).map W.str) (.str "prices")).map (fun (k : Nat) => W.int (k : Int)) = some (.int (4 + (ls.length : Int) + (ws.length : Int))) := by rw [ringL_ixP f]; simp
  have z0 : ((ringL n ls ws ps).map W.str)[0]? = some (.str "ring") := by rw [ringL_map]; rfl
  have z1 : ixAt (5 + ls.length + ws.length + ps.length) 0 = some 0 := ixN_ok (k := 0) (by omega)
  have sl : strsW ((ringL n ls ws ps).map W.str) = some (ringL n ls ws ps) := strsW_map
  have d1 : dataW (.str "ring") = true := by decide +kernel
  have fl := strs_flat (ringL n ls ws ps)
  have n1 := numbers_of_eq (k := k + 1) f.gn (by simp)
  have n2 := numbers_of_eq (k := k + 1) f.gl (by have := f.ll; omega)
  have n3 := numbers_of_eq (k := k + 1) f.gw (by have := f.wl; omega)
  have n4 := numbers_of_eq (k := k + 1) f.gp (by have := f.ql; omega)
  have r0 := ring_newP (k := k) (w := P.wh) (gl := P.glob) f.n2 f.n12 f.ls f.ws f.pl f.ps
  have h23 : (2 : Int) < 3 + (ls.length : Int) := by omega
  have h34 : 3 + (ls.length : Int) < 4 + (ls.length : Int) + (ws.length : Int) := by omega
  have sp : (Str.ofString " ").length = 0 ↔ False := by decide +kernel
  have k1 := ringL_c1 (n := n) (ls := ls) (ws := ws) (ps := ps)
  have k2 := ringL_c2 (n := n) (ls := ls) (ws := ws) (ps := ps)
  have k3 := ringL_c3 (n := n) (ls := ls) (ws := ws) (ps := ps)
  have k4 := ringL_c4 (n := n) (ls := ls) (ws := ws) (ps := ps)
  have i10 : ixAt 1 0 = some 0 := rfl
  simp only [List.map_cons, List.map_nil, iW] at n1
  try simp -implicitDefEqProofs only [↓w_bind, ↓w_inS, ↓w_inSb, ↓w_inSs, ↓w_cons, ↓wp_nil, ↓wE_var, ↓wE_cst, ↓wE_glob, ↓wE_pr, ↓w_kAnd, ↓w_kOr, ↓wE_and, ↓wE_or, ↓wE_not, ↓w_kNot, ↓w_kIte, ↓wE_ite, ↓wE_chain, ↓w_kCh1, ↓w_kCh2, ↓w_kCh3, ↓wE_chain3, ↓w_kDh1, ↓w_kDh2, ↓w_kDh3, ↓w_kDh4, ↓w_kDh5, ↓wT_chain3, ↓wE_comp, ↓w_kComp0, ↓w_kComp2f, ↓w_kComp2t, ↓wE_call, ↓wE_meth, ↓w_kMe1, ↓w_kMe2, ↓wE_mcall, ↓w_kMc0, ↓w_kMc1, ↓wE_new, ↓wE_fld, ↓wEs_nil, ↓wEs_cons, ↓w_kEs1, ↓w_kEs2, ↓wT_and, ↓wT_or, ↓wT_not, ↓w_kTA, ↓w_kTO, ↓w_kTN, ↓wT_var, ↓wT_cst, ↓wT_pr, ↓wT_chain, ↓wT_call, ↓wT_meth, ↓wT_mcall, ↓wT_fld, ↓wC_nil, ↓wC_cons, ↓w_kC, ↓w_kCf2, ↓w_kCf3, ↓wS_expr, ↓wS_asg, ↓wS_asT, ↓w_kAsT, ↓wS_par, ↓w_kPar, ↓wS_setix, ↓w_kSx1, ↓w_kSx2, ↓w_kSx3, ↓wS_setix2, ↓w_kSy1, ↓w_kSy2, ↓w_kSy3, ↓wS_setf, ↓w_kSf1, ↓w_kSf2, ↓wS_aug, ↓w_kAu, ↓wS_ret, ↓wS_retN, ↓wS_ifs, ↓w_kIf, ↓wS_for, ↓w_kFor, ↓wS_whl, ↓wS_brk, ↓wS_cnt, ↓wS_pass, ↓wS_raise, ↓wS_thru, ↓w_itN, ↓w_itP, ↓w_truU, ↓w_truL, ↓w_p1, ↓w_p1l, ↓w_p2, ↓w_p2l, ↓w_p2r, ↓w_eq, ↓w_ne, ↓w_eql, ↓w_nel, ↓w_tup, ↓w_lst, ↓w_lstT, ↓w_frUs0, ↓w_frUs1, ↓w_frUsL, wp_ok, wp_okP, wp_bad, wp_ite, wp_nxt, wp_rdp, wp_frp, wp_some, wp_finp, wp_newU, wp_rdl', wp_setix, wp_setf, wp_updL, wp_guard, kB_ap, kM_ap, kS_nx, kS_rt, kS_bk, kS_ct, kS_ex, kX_ap, kF_rt, kF_nx, kF_ex, oW_s, oW_n, oW_i, prE, bindA, Dfl.w, kCall, kMc2, kNew, truW, tagW, subT, addW, subW, modW, cmpW, ixW, lenW, seqW, isNon, boolsW, MO.frz, fldU, augM, augW, oB, oI, setsL, slW, wp_optI, itemsW, mulW_l', mulW_r', wp_eqI, bnd_nm, bnd_2, bnd_3, bnd_4, wipeL, ix20, ix21, ix30, ix31, ix32, List.any_cons, List.any_nil, String.reduceBEq, Bool.or_false, Bool.or_true, Bool.false_or, Bool.true_or, Bool.and_false, Bool.and_true, Bool.false_and, Bool.true_and, Bool.not_true, Bool.not_false, beq_self_eq_true, Int.reduceLT, Int.reduceLE, Int.reduceEq, Nat.reduceLT, Nat.reduceLeDiff, Nat.reduceEqDiff, decide_true, decide_false, decide_eq_true_eq, and_self, and_true, true_and, List.map_cons, List.map_nil, List.cons_append, List.nil_append, List.append_nil, List.replicate_succ, List.replicate_zero, List.length_cons, List.length_nil, List.getElem?_cons_zero, List.getElem?_cons_succ, List.set_cons_zero, List.set_cons_succ, Option.bind_some, Option.bind_none, Option.map_some, Option.map_none, Nat.reduceSub, Nat.reduceAdd, Nat.sub_self, Nat.add_zero, Nat.zero_add, ite_true, ite_false, if_true, if_false, Bool.false_eq_true, reduceCtorEq, List.take_length, rcv_join, rcv_split, rcv_find, rcv_index, rcv_indexL, rcv_count, rcv_append, rcv_extend, eqF_pp, sp, e0, e1, List.length_map, hlen, z1, z0, wp_eqSS d1, not_false_eq_true, ne_eq, itU, walkU, itemsW, wp_guard]
  refine ⟨by decide, ?_⟩
  rw [wp_compM (g := fun _ => .int 1) fun w hw => ?_]
  · have d2 : dataW (.lst [.int 1, .int 1, .int 1]) = true := by decide
    have d3 : eqW (.lst [.int 1, .int 1, .int 1]) (.lst [.int 1, .int 1, .int 1]) = true := by decide
    have t1 : flatW (.str "locks") = true := rfl
    have t2 : flatW (.str "walls") = true := rfl
    have t3 : flatW (.str "prices") = true := rfl
    try simp -implicitDefEqProofs only [↓w_bind, ↓w_inS, ↓w_inSb, ↓w_inSs, ↓w_cons, ↓wp_nil, ↓wE_var, ↓wE_cst, ↓wE_glob, ↓wE_pr, ↓w_kAnd, ↓w_kOr, ↓wE_and, ↓wE_or, ↓wE_not, ↓w_kNot, ↓w_kIte, ↓wE_ite, ↓wE_chain, ↓w_kCh1, ↓w_kCh2, ↓w_kCh3, ↓wE_chain3, ↓w_kDh1, ↓w_kDh2, ↓w_kDh3, ↓w_kDh4, ↓w_kDh5, ↓wT_chain3, ↓wE_comp, ↓w_kComp0, ↓w_kComp2f, ↓w_kComp2t, ↓wE_call, ↓wE_meth, ↓w_kMe1, ↓w_kMe2, ↓wE_mcall, ↓w_kMc0, ↓w_kMc1, ↓wE_new, ↓wE_fld, ↓wEs_nil, ↓wEs_cons, ↓w_kEs1, ↓w_kEs2, ↓wT_and, ↓wT_or, ↓wT_not, ↓w_kTA, ↓w_kTO, ↓w_kTN, ↓wT_var, ↓wT_cst, ↓wT_pr, ↓wT_chain, ↓wT_call, ↓wT_meth, ↓wT_mcall, ↓wT_fld, ↓wC_nil, ↓wC_cons, ↓w_kC, ↓w_kCf2, ↓w_kCf3, ↓wS_expr, ↓wS_asg, ↓wS_asT, ↓w_kAsT, ↓wS_par, ↓w_kPar, ↓wS_setix, ↓w_kSx1, ↓w_kSx2, ↓w_kSx3, ↓wS_setix2, ↓w_kSy1, ↓w_kSy2, ↓w_kSy3, ↓wS_setf, ↓w_kSf1, ↓w_kSf2, ↓wS_aug, ↓w_kAu, ↓wS_ret, ↓wS_retN, ↓wS_ifs, ↓w_kIf, ↓wS_for, ↓w_kFor, ↓wS_whl, ↓wS_brk, ↓wS_cnt, ↓wS_pass, ↓wS_raise, ↓wS_thru, ↓w_itN, ↓w_itP, ↓w_truU, ↓w_truL, ↓w_p1, ↓w_p1l, ↓w_p2, ↓w_p2l, ↓w_p2r, ↓w_eq, ↓w_ne, ↓w_eql, ↓w_nel, ↓w_tup, ↓w_lst, ↓w_lstT, ↓w_frUs0, ↓w_frUs1, ↓w_frUsL, wp_ok, wp_okP, wp_bad, wp_ite, wp_nxt, wp_rdp, wp_frp, wp_some, wp_finp, wp_newU, wp_rdl', wp_setix, wp_setf, wp_updL, wp_guard, kB_ap, kM_ap, kS_nx, kS_rt, kS_bk, kS_ct, kS_ex, kX_ap, kF_rt, kF_nx, kF_ex, oW_s, oW_n, oW_i, prE, bindA, Dfl.w, kCall, kMc2, kNew, truW, tagW, subT, addW, subW, modW, cmpW, ixW, lenW, seqW, isNon, boolsW, MO.frz, fldU, augM, augW, oB, oI, setsL, slW, wp_optI, itemsW, mulW_l', mulW_r', wp_eqI, bnd_nm, bnd_2, bnd_3, bnd_4, wipeL, ix20, ix21, ix30, ix31, ix32, List.any_cons, List.any_nil, String.reduceBEq, Bool.or_false, Bool.or_true, Bool.false_or, Bool.true_or, Bool.and_false, Bool.and_true, Bool.false_and, Bool.true_and, Bool.not_true, Bool.not_false, beq_self_eq_true, Int.reduceLT, Int.reduceLE, Int.reduceEq, Nat.reduceLT, Nat.reduceLeDiff, Nat.reduceEqDiff, decide_true, decide_false, decide_eq_true_eq, and_self, and_true, true_and, List.map_cons, List.map_nil, List.cons_append, List.nil_append, List.append_nil, List.replicate_succ, List.replicate_zero, List.length_cons, List.length_nil, List.getElem?_cons_zero, List.getElem?_cons_succ, List.set_cons_zero, List.set_cons_succ, Option.bind_some, Option.bind_none, Option.map_some, Option.map_none, Nat.reduceSub, Nat.reduceAdd, Nat.sub_self, Nat.add_zero, Nat.zero_add, ite_true, ite_false, if_true, if_false, Bool.false_eq_true, reduceCtorEq, List.take_length, rcv_join, rcv_split, rcv_find, rcv_index, rcv_indexL, rcv_count, rcv_append, rcv_extend, eqF_pp, wp_eqX d2 d3, fl, t1, t2, t3, i1, i2, i3, wp_eqI, h23, h34, k1, k2, k3, k4, n1, n2, n3, n4, i10, r0]
    all_goals try first | rfl | exact take_all rfl | exact ⟨rfl, take_all rfl⟩
  · simp only [List.mem_cons, List.not_mem_nil, or_false] at hw
    rcases hw with rfl | rfl | rfl
    · rw [w_compF rfl]
      try simp -implicitDefEqProofs only [↓w_bind, ↓w_inS, ↓w_inSb, ↓w_inSs, ↓w_cons, ↓wp_nil, ↓wE_var, ↓wE_cst, ↓wE_glob, ↓wE_pr, ↓w_kAnd, ↓w_kOr, ↓wE_and, ↓wE_or, ↓wE_not, ↓w_kNot, ↓w_kIte, ↓wE_ite, ↓wE_chain, ↓w_kCh1, ↓w_kCh2, ↓w_kCh3, ↓wE_chain3, ↓w_kDh1, ↓w_kDh2, ↓w_kDh3, ↓w_kDh4, ↓w_kDh5, ↓wT_chain3, ↓wE_comp, ↓w_kComp0, ↓w_kComp2f, ↓w_kComp2t, ↓wE_call, ↓wE_meth, ↓w_kMe1, ↓w_kMe2, ↓wE_mcall, ↓w_kMc0, ↓w_kMc1, ↓wE_new, ↓wE_fld, ↓wEs_nil, ↓wEs_cons, ↓w_kEs1, ↓w_kEs2, ↓wT_and, ↓wT_or, ↓wT_not, ↓w_kTA, ↓w_kTO, ↓w_kTN, ↓wT_var, ↓wT_cst, ↓wT_pr, ↓wT_chain, ↓wT_call, ↓wT_meth, ↓wT_mcall, ↓wT_fld, ↓wC_nil, ↓wC_cons, ↓w_kC, ↓w_kCf2, ↓w_kCf3, ↓wS_expr, ↓wS_asg, ↓wS_asT, ↓w_kAsT, ↓wS_par, ↓w_kPar, ↓wS_setix, ↓w_kSx1, ↓w_kSx2, ↓w_kSx3, ↓wS_setix2, ↓w_kSy1, ↓w_kSy2, ↓w_kSy3, ↓wS_setf, ↓w_kSf1, ↓w_kSf2, ↓wS_aug, ↓w_kAu, ↓wS_ret, ↓wS_retN, ↓wS_ifs, ↓w_kIf, ↓wS_for, ↓w_kFor, ↓wS_whl, ↓wS_brk, ↓wS_cnt, ↓wS_pass, ↓wS_raise, ↓wS_thru, ↓w_itN, ↓w_itP, ↓w_truU, ↓w_truL, ↓w_p1, ↓w_p1l, ↓w_p2, ↓w_p2l, ↓w_p2r, ↓w_eq, ↓w_ne, ↓w_eql, ↓w_nel, ↓w_tup, ↓w_lst, ↓w_lstT, ↓w_frUs0, ↓w_frUs1, ↓w_frUsL, wp_ok, wp_okP, wp_bad, wp_ite, wp_nxt, wp_rdp, wp_frp, wp_some, wp_finp, wp_newU, wp_rdl', wp_setix, wp_setf, wp_updL, wp_guard, kB_ap, kM_ap, kS_nx, kS_rt, kS_bk, kS_ct, kS_ex, kX_ap, kF_rt, kF_nx, kF_ex, oW_s, oW_n, oW_i, prE, bindA, Dfl.w, kCall, kMc2, kNew, truW, tagW, subT, addW, subW, modW, cmpW, ixW, lenW, seqW, isNon, boolsW, MO.frz, fldU, augM, augW, oB, oI, setsL, slW, wp_optI, itemsW, mulW_l', mulW_r', wp_eqI, bnd_nm, bnd_2, bnd_3, bnd_4, wipeL, ix20, ix21, ix30, ix31, ix32, List.any_cons, List.any_nil, String.reduceBEq, Bool.or_false, Bool.or_true, Bool.false_or, Bool.true_or, Bool.and_false, Bool.and_true, Bool.false_and, Bool.true_and, Bool.not_true, Bool.not_false, beq_self_eq_true, Int.reduceLT, Int.reduceLE, Int.reduceEq, Nat.reduceLT, Nat.reduceLeDiff, Nat.reduceEqDiff, decide_true, decide_false, decide_eq_true_eq, and_self, and_true, true_and, List.map_cons, List.map_nil, List.cons_append, List.nil_append, List.append_nil, List.replicate_succ, List.replicate_zero, List.length_cons, List.length_nil, List.getElem?_cons_zero, List.getElem?_cons_succ, List.set_cons_zero, List.set_cons_succ, Option.bind_some, Option.bind_none, Option.map_some, Option.map_none, Nat.reduceSub, Nat.reduceAdd, Nat.sub_self, Nat.add_zero, Nat.zero_add, ite_true, ite_false, if_true, if_false, Bool.false_eq_true, reduceCtorEq, List.take_length, rcv_join, rcv_split, rcv_find, rcv_index, rcv_indexL, rcv_count, rcv_append, rcv_extend, eqF_pp, sl, c1, c2, c3]
      trivial
    · rw [w_compF rfl]
      try simp -implicitDefEqProofs only [↓w_bind, ↓w_inS, ↓w_inSb, ↓w_inSs, ↓w_cons, ↓wp_nil, ↓wE_var, ↓wE_cst, ↓wE_glob, ↓wE_pr, ↓w_kAnd, ↓w_kOr, ↓wE_and, ↓wE_or, ↓wE_not, ↓w_kNot, ↓w_kIte, ↓wE_ite, ↓wE_chain, ↓w_kCh1, ↓w_kCh2, ↓w_kCh3, ↓wE_chain3, ↓w_kDh1, ↓w_kDh2, ↓w_kDh3, ↓w_kDh4, ↓w_kDh5, ↓wT_chain3, ↓wE_comp, ↓w_kComp0, ↓w_kComp2f, ↓w_kComp2t, ↓wE_call, ↓wE_meth, ↓w_kMe1, ↓w_kMe2, ↓wE_mcall, ↓w_kMc0, ↓w_kMc1, ↓wE_new, ↓wE_fld, ↓wEs_nil, ↓wEs_cons, ↓w_kEs1, ↓w_kEs2, ↓wT_and, ↓wT_or, ↓wT_not, ↓w_kTA, ↓w_kTO, ↓w_kTN, ↓wT_var, ↓wT_cst, ↓wT_pr, ↓wT_chain, ↓wT_call, ↓wT_meth, ↓wT_mcall, ↓wT_fld, ↓wC_nil, ↓wC_cons, ↓w_kC, ↓w_kCf2, ↓w_kCf3, ↓wS_expr, ↓wS_asg, ↓wS_asT, ↓w_kAsT, ↓wS_par, ↓w_kPar, ↓wS_setix, ↓w_kSx1, ↓w_kSx2, ↓w_kSx3, ↓wS_setix2, ↓w_kSy1, ↓w_kSy2, ↓w_kSy3, ↓wS_setf, ↓w_kSf1, ↓w_kSf2, ↓wS_aug, ↓w_kAu, ↓wS_ret, ↓wS_retN, ↓wS_ifs, ↓w_kIf, ↓wS_for, ↓w_kFor, ↓wS_whl, ↓wS_brk, ↓wS_cnt, ↓wS_pass, ↓wS_raise, ↓wS_thru, ↓w_itN, ↓w_itP, ↓w_truU, ↓w_truL, ↓w_p1, ↓w_p1l, ↓w_p2, ↓w_p2l, ↓w_p2r, ↓w_eq, ↓w_ne, ↓w_eql, ↓w_nel, ↓w_tup, ↓w_lst, ↓w_lstT, ↓w_frUs0, ↓w_frUs1, ↓w_frUsL, wp_ok, wp_okP, wp_bad, wp_ite, wp_nxt, wp_rdp, wp_frp, wp_some, wp_finp, wp_newU, wp_rdl', wp_setix, wp_setf, wp_updL, wp_guard, kB_ap, kM_ap, kS_nx, kS_rt, kS_bk, kS_ct, kS_ex, kX_ap, kF_rt, kF_nx, kF_ex, oW_s, oW_n, oW_i, prE, bindA, Dfl.w, kCall, kMc2, kNew, truW, tagW, subT, addW, subW, modW, cmpW, ixW, lenW, seqW, isNon, boolsW, MO.frz, fldU, augM, augW, oB, oI, setsL, slW, wp_optI, itemsW, mulW_l', mulW_r', wp_eqI, bnd_nm, bnd_2, bnd_3, bnd_4, wipeL, ix20, ix21, ix30, ix31, ix32, List.any_cons, List.any_nil, String.reduceBEq, Bool.or_false, Bool.or_true, Bool.false_or, Bool.true_or, Bool.and_false, Bool.and_true, Bool.false_and, Bool.true_and, Bool.not_true, Bool.not_false, beq_self_eq_true, Int.reduceLT, Int.reduceLE, Int.reduceEq, Nat.reduceLT, Nat.reduceLeDiff, Nat.reduceEqDiff, decide_true, decide_false, decide_eq_true_eq, and_self, and_true, true_and, List.map_cons, List.map_nil, List.cons_append, List.nil_append, List.append_nil, List.replicate_succ, List.replicate_zero, List.length_cons, List.length_nil, List.getElem?_cons_zero, List.getElem?_cons_succ, List.set_cons_zero, List.set_cons_succ, Option.bind_some, Option.bind_none, Option.map_some, Option.map_none, Nat.reduceSub, Nat.reduceAdd, Nat.sub_self, Nat.add_zero, Nat.zero_add, ite_true, ite_false, if_true, if_false, Bool.false_eq_true, reduceCtorEq, List.take_length, rcv_join, rcv_split, rcv_find, rcv_index, rcv_indexL, rcv_count, rcv_append, rcv_extend, eqF_pp, sl, c1, c2, c3]
      trivial
    · rw [w_compF rfl]
      try simp -implicitDefEqProofs only [↓w_bind, ↓w_inS, ↓w_inSb, ↓w_inSs, ↓w_cons, ↓wp_nil, ↓wE_var, ↓wE_cst, ↓wE_glob, ↓wE_pr, ↓w_kAnd, ↓w_kOr, ↓wE_and, ↓wE_or, ↓wE_not, ↓w_kNot, ↓w_kIte, ↓wE_ite, ↓wE_chain, ↓w_kCh1, ↓w_kCh2, ↓w_kCh3, ↓wE_chain3, ↓w_kDh1, ↓w_kDh2, ↓w_kDh3, ↓w_kDh4, ↓w_kDh5, ↓wT_chain3, ↓wE_comp, ↓w_kComp0, ↓w_kComp2f, ↓w_kComp2t, ↓wE_call, ↓wE_meth, ↓w_kMe1, ↓w_kMe2, ↓wE_mcall, ↓w_kMc0, ↓w_kMc1, ↓wE_new, ↓wE_fld, ↓wEs_nil, ↓wEs_cons, ↓w_kEs1, ↓w_kEs2, ↓wT_and, ↓wT_or, ↓wT_not, ↓w_kTA, ↓w_kTO, ↓w_kTN, ↓wT_var, ↓wT_cst, ↓wT_pr, ↓wT_chain, ↓wT_call, ↓wT_meth, ↓wT_mcall, ↓wT_fld, ↓wC_nil, ↓wC_cons, ↓w_kC, ↓w_kCf2, ↓w_kCf3, ↓wS_expr, ↓wS_asg, ↓wS_asT, ↓w_kAsT, ↓wS_par, ↓w_kPar, ↓wS_setix, ↓w_kSx1, ↓w_kSx2, ↓w_kSx3, ↓wS_setix2, ↓w_kSy1, ↓w_kSy2, ↓w_kSy3, ↓wS_setf, ↓w_kSf1, ↓w_kSf2, ↓wS_aug, ↓w_kAu, ↓wS_ret, ↓wS_retN, ↓wS_ifs, ↓w_kIf, ↓wS_for, ↓w_kFor, ↓wS_whl, ↓wS_brk, ↓wS_cnt, ↓wS_pass, ↓wS_raise, ↓wS_thru, ↓w_itN, ↓w_itP, ↓w_truU, ↓w_truL, ↓w_p1, ↓w_p1l, ↓w_p2, ↓w_p2l, ↓w_p2r, ↓w_eq, ↓w_ne, ↓w_eql, ↓w_nel, ↓w_tup, ↓w_lst, ↓w_lstT, ↓w_frUs0, ↓w_frUs1, ↓w_frUsL, wp_ok, wp_okP, wp_bad, wp_ite, wp_nxt, wp_rdp, wp_frp, wp_some, wp_finp, wp_newU, wp_rdl', wp_setix, wp_setf, wp_updL, wp_guard, kB_ap, kM_ap, kS_nx, kS_rt, kS_bk, kS_ct, kS_ex, kX_ap, kF_rt, kF_nx, kF_ex, oW_s, oW_n, oW_i, prE, bindA, Dfl.w, kCall, kMc2, kNew, truW, tagW, subT, addW, subW, modW, cmpW, ixW, lenW, seqW, isNon, boolsW, MO.frz, fldU, augM, augW, oB, oI, setsL, slW, wp_optI, itemsW, mulW_l', mulW_r', wp_eqI, bnd_nm, bnd_2, bnd_3, bnd_4, wipeL, ix20, ix21, ix30, ix31, ix32, List.any_cons, List.any_nil, String.reduceBEq, Bool.or_false, Bool.or_true, Bool.false_or, Bool.true_or, Bool.and_false, Bool.and_true, Bool.false_and, Bool.true_and, Bool.not_true, Bool.not_false, beq_self_eq_true, Int.reduceLT, Int.reduceLE, Int.reduceEq, Nat.reduceLT, Nat.reduceLeDiff, Nat.reduceEqDiff, decide_true, decide_false, decide_eq_true_eq, and_self, and_true, true_and, List.map_cons, List.map_nil, List.cons_append, List.nil_append, List.append_nil, List.replicate_succ, List.replicate_zero, List.length_cons, List.length_nil, List.getElem?_cons_zero, List.getElem?_cons_succ, List.set_cons_zero, List.set_cons_succ, Option.bind_some, Option.bind_none, Option.map_some, Option.map_none, Nat.reduceSub, Nat.reduceAdd, Nat.sub_self, Nat.add_zero, Nat.zero_add, ite_true, ite_false, if_true, if_false, Bool.false_eq_true, reduceCtorEq, List.take_length, rcv_join, rcv_split, rcv_find, rcv_index, rcv_indexL, rcv_count, rcv_append, rcv_extend, eqF_pp, sl, c1, c2, c3]
      trivial
theorem parse_ring_eq {k : Nat} {n : Int} {ls ws ps : List Int} (f : RF n ls ws ps) : callM P (k + 5) "parse_ring" [.p (.str (ringS n ls ws ps))] = okP (ringW n ls ws (iW ps)) := by
  refine eq_of_wp fun S => w_call fn_parse_ring rfl ?_
  simp only [b_parse_ring]
  have r := read_ring_eq (k := k) f
  have s := fun (QU : U → Sto → Prop) (E : WE) (S : Sto) => w_strRing (k := k + 3) (QU := QU) (E := E) (S := S) f
  have d : dataW (.str (ringS n ls ws ps)) = true := asc_data ringS_asc
  try simp -implicitDefEqProofs only [↓w_bind, ↓w_inS, ↓w_inSb, ↓w_inSs, ↓w_cons, ↓wp_nil, ↓wE_var, ↓wE_cst, ↓wE_glob, ↓wE_pr, ↓w_kAnd, ↓w_kOr, ↓wE_and, ↓wE_or, ↓wE_not, ↓w_kNot, ↓w_kIte, ↓wE_ite, ↓wE_chain, ↓w_kCh1, ↓w_kCh2, ↓w_kCh3, ↓wE_chain3, ↓w_kDh1, ↓w_kDh2, ↓w_kDh3, ↓w_kDh4, ↓w_kDh5, ↓wT_chain3, ↓wE_comp, ↓w_kComp0, ↓w_kComp2f, ↓w_kComp2t, ↓wE_call, ↓wE_meth, ↓w_kMe1, ↓w_kMe2, ↓wE_mcall, ↓w_kMc0, ↓w_kMc1, ↓wE_new, ↓wE_fld, ↓wEs_nil, ↓wEs_cons, ↓w_kEs1, ↓w_kEs2, ↓wT_and, ↓wT_or, ↓wT_not, ↓w_kTA, ↓w_kTO, ↓w_kTN, ↓wT_var, ↓wT_cst, ↓wT_pr, ↓wT_chain, ↓wT_call, ↓wT_meth, ↓wT_mcall, ↓wT_fld, ↓wC_nil, ↓wC_cons, ↓w_kC, ↓w_kCf2, ↓w_kCf3, ↓wS_expr, ↓wS_asg, ↓wS_asT, ↓w_kAsT, ↓wS_par, ↓w_kPar, ↓wS_setix, ↓w_kSx1, ↓w_kSx2, ↓w_kSx3, ↓wS_setix2, ↓w_kSy1, ↓w_kSy2, ↓w_kSy3, ↓wS_setf, ↓w_kSf1, ↓w_kSf2, ↓wS_aug, ↓w_kAu, ↓wS_ret, ↓wS_retN, ↓wS_ifs, ↓w_kIf, ↓wS_for, ↓w_kFor, ↓wS_whl, ↓wS_brk, ↓wS_cnt, ↓wS_pass, ↓wS_raise, ↓wS_thru, ↓w_itN, ↓w_itP, ↓w_truU, ↓w_truL, ↓w_p1, ↓w_p1l, ↓w_p2, ↓w_p2l, ↓w_p2r, ↓w_eq, ↓w_ne, ↓w_eql, ↓w_nel, ↓w_tup, ↓w_lst, ↓w_lstT, ↓w_frUs0, ↓w_frUs1, ↓w_frUsL, wp_ok, wp_okP, wp_bad, wp_ite, wp_nxt, wp_rdp, wp_frp, wp_some, wp_finp, wp_newU, wp_rdl', wp_setix, wp_setf, wp_updL, wp_guard, kB_ap, kM_ap, kS_nx, kS_rt, kS_bk, kS_ct, kS_ex, kX_ap, kF_rt, kF_nx, kF_ex, oW_s, oW_n, oW_i, prE, bindA, Dfl.w, kCall, kMc2, kNew, truW, tagW, subT, addW, subW, modW, cmpW, ixW, lenW, seqW, isNon, boolsW, MO.frz, fldU, augM, augW, oB, oI, setsL, slW, wp_optI, itemsW, mulW_l', mulW_r', wp_eqI, bnd_nm, bnd_2, bnd_3, bnd_4, wipeL, ix20, ix21, ix30, ix31, ix32, List.any_cons, List.any_nil, String.reduceBEq, Bool.or_false, Bool.or_true, Bool.false_or, Bool.true_or, Bool.and_false, Bool.and_true, Bool.false_and, Bool.true_and, Bool.not_true, Bool.not_false, beq_self_eq_true, Int.reduceLT, Int.reduceLE, Int.reduceEq, Nat.reduceLT, Nat.reduceLeDiff, Nat.reduceEqDiff, decide_true, decide_false, decide_eq_true_eq, and_self, and_true, true_and, List.map_cons, List.map_nil, List.cons_append, List.nil_append, List.append_nil, List.replicate_succ, List.replicate_zero, List.length_cons, List.length_nil, List.getElem?_cons_zero, List.getElem?_cons_succ, List.set_cons_zero, List.set_cons_succ, Option.bind_some, Option.bind_none, Option.map_some, Option.map_none, Nat.reduceSub, Nat.reduceAdd, Nat.sub_self, Nat.add_zero, Nat.zero_add, ite_true, ite_false, if_true, if_false, Bool.false_eq_true, reduceCtorEq, List.take_length, rcv_join, rcv_split, rcv_find, rcv_index, rcv_indexL, rcv_count, rcv_append, rcv_extend, eqF_pp, r, s, wp_eqSS d]
  all_goals try first | rfl | exact take_all rfl | exact ⟨rfl, take_all rfl⟩
end L_k05
end
section
set_option Elab.async false
set_option linter.all false
set_option maxHeartbeats 2000000
set_option maxRecDepth 100000
namespace L_k05
open PySem Pm
theorem eqWs_tI : ∀ {a b : List Int}, eqWs (iW a) (iW b) = decide (a = b)
  | [], [] => rfl
  | [], _ :: _ => rfl
  | _ :: _, [] => rfl
  | x :: a, y :: b => by
    have ih := eqWs_tI (a := a) (b := b)
    simp only [iW] at ih
    simp only [iW, List.map_cons, eqWs, eqW, ih]
    apply Bool.eq_iff_iff.mpr
    simp
theorem wp_eqTI {f : String → List U → M U} {a b : List Int} {S : Sto} {Q : Bool → Sto → Prop} {E : WE} : Wp (eqM f (.tup (iW a)) (.tup (iW b))) Q E S = Q (decide (a = b)) S := by
  have d : ∀ is : List Int, dataW (.tup (iW is)) = true := fun is => by simp only [dataW, dataN]; exact data_ints
  unfold Wp eqM
  rw [d, d]
  simp only [Bool.and_self, if_true, eqW, eqWs_tI]
/-- == of an own object and a value of a built-in kind -/
theorem wp_eqB1 {f : String → List U → M U} {C : String} {fs : List (Str × W)} {w : W} {Q : Bool → Sto → Prop} {E : WE} {S : Sto} (h : bltW w = true) : Wp (eqM f (.obj C fs) w) Q E S = Wp (f (C ++ ".__eq__") [.p (.obj C fs), .p w]) (fun v S' => match v with
    | .p (.bl r) => Q r S'
    | _ => False) E S := by
  have e : eqM f (.obj C fs) w = eqB1 f C fs w := by
    unfold eqM
    rw [if_neg (by simp [dataW, dataN])]
    cases w <;> first | rfl | (simp only [bltW, Bool.false_eq_true] at h)
  rw [e]
  unfold eqB1
  rw [if_pos h, wp_bind]
  refine congrArg (fun q => Wp _ q E S) ?_
  funext v S'
  cases v with
  | loc n => rfl
  | p w => cases w <;> rfl
theorem wp_eqB2 {f : String → List U → M U} {C : String} {fs : List (Str × W)} {w : W} {Q : Bool → Sto → Prop} {E : WE} {S : Sto} (h : bltW w = true) : Wp (eqM f w (.obj C fs)) Q E S = Wp (eqM f (.obj C fs) w) Q E S := by
  have e : eqM f w (.obj C fs) = eqM f (.obj C fs) w := by
    unfold eqM
    rw [if_neg (by simp [dataW, dataN]), if_neg (by simp [dataW, dataN])]
    cases w <;> first | rfl | (simp only [bltW, Bool.false_eq_true] at h)
  rw [e]
theorem ring_eqD {k : Nat} {n n' : Int} {ls ws ps ls' ws' ps' : List Int} : callM P (k + 1) "Ring.__eq__" [.p (ringW n ls ws (iW ps)), .p (ringW n' ls' ws' (iW ps'))] = okP (.bl (decide (n = n' ∧ ps = ps' ∧ ls = ls' ∧ ws = ws'))) := by
  refine eq_of_wp fun S => w_call fn_Ringu_equ rfl ?_
  simp only [b_Ringu_equ, ringW]
  have s1 : ∀ {n : Int} {a b c : W}, List.lookup (Str.ofString "size") [(Str.ofString "size", W.int n), (Str.ofString "locks", a), (Str.ofString "walls", b), (Str.ofString "prices", c)] = some (.int n) := fs_size
  by_cases h1 : n = n'
  · have b1 : (n == n') = true := by simpa using h1
    by_cases h2 : ps = ps'
    · have d2 : decide (ps = ps') = true := by simpa using h2
      by_cases h3 : ls = ls'
      · have d3 : decide (ls = ls') = true := by simpa using h3
        by_cases h4 : ws = ws'
        · have d4 : decide (ws = ws') = true := by simpa using h4
          try simp -implicitDefEqProofs only [↓w_bind, ↓w_inS, ↓w_inSb, ↓w_inSs, ↓w_cons, ↓wp_nil, ↓wE_var, ↓wE_cst, ↓wE_glob, ↓wE_pr, ↓w_kAnd, ↓w_kOr, ↓wE_and, ↓wE_or, ↓wE_not, ↓w_kNot, ↓w_kIte, ↓wE_ite, ↓wE_chain, ↓w_kCh1, ↓w_kCh2, ↓w_kCh3, ↓wE_chain3, ↓w_kDh1, ↓w_kDh2, ↓w_kDh3, ↓w_kDh4, ↓w_kDh5, ↓wT_chain3, ↓wE_comp, ↓w_kComp0, ↓w_kComp2f, ↓w_kComp2t, ↓wE_call, ↓wE_meth, ↓w_kMe1, ↓w_kMe2, ↓wE_mcall, ↓w_kMc0, ↓w_kMc1, ↓wE_new, ↓wE_fld, ↓wEs_nil, ↓wEs_cons, ↓w_kEs1, ↓w_kEs2, ↓wT_and, ↓wT_or, ↓wT_not, ↓w_kTA, ↓w_kTO, ↓w_kTN, ↓wT_var, ↓wT_cst, ↓wT_pr, ↓wT_chain, ↓wT_call, ↓wT_meth, ↓wT_mcall, ↓wT_fld, ↓wC_nil, ↓wC_cons, ↓w_kC, ↓w_kCf2, ↓w_kCf3, ↓wS_expr, ↓wS_asg, ↓wS_asT, ↓w_kAsT, ↓wS_par, ↓w_kPar, ↓wS_setix, ↓w_kSx1, ↓w_kSx2, ↓w_kSx3, ↓wS_setix2, ↓w_kSy1, ↓w_kSy2, ↓w_kSy3, ↓wS_setf, ↓w_kSf1, ↓w_kSf2, ↓wS_aug, ↓w_kAu, ↓wS_ret, ↓wS_retN, ↓wS_ifs, ↓w_kIf, ↓wS_for, ↓w_kFor, ↓wS_whl, ↓wS_brk, ↓wS_cnt, ↓wS_pass, ↓wS_raise, ↓wS_thru, ↓w_itN, ↓w_itP, ↓w_truU, ↓w_truL, ↓w_p1, ↓w_p1l, ↓w_p2, ↓w_p2l, ↓w_p2r, ↓w_eq, ↓w_ne, ↓w_eql, ↓w_nel, ↓w_tup, ↓w_lst, ↓w_lstT, ↓w_frUs0, ↓w_frUs1, ↓w_frUsL, wp_ok, wp_okP, wp_bad, wp_ite, wp_nxt, wp_rdp, wp_frp, wp_some, wp_finp, wp_newU, wp_rdl', wp_setix, wp_setf, wp_updL, wp_guard, kB_ap, kM_ap, kS_nx, kS_rt, kS_bk, kS_ct, kS_ex, kX_ap, kF_rt, kF_nx, kF_ex, oW_s, oW_n, oW_i, prE, bindA, Dfl.w, kCall, kMc2, kNew, truW, tagW, subT, addW, subW, modW, cmpW, ixW, lenW, seqW, isNon, boolsW, MO.frz, fldU, augM, augW, oB, oI, setsL, slW, wp_optI, itemsW, mulW_l', mulW_r', wp_eqI, bnd_nm, bnd_2, bnd_3, bnd_4, wipeL, ix20, ix21, ix30, ix31, ix32, List.any_cons, List.any_nil, String.reduceBEq, Bool.or_false, Bool.or_true, Bool.false_or, Bool.true_or, Bool.and_false, Bool.and_true, Bool.false_and, Bool.true_and, Bool.not_true, Bool.not_false, beq_self_eq_true, Int.reduceLT, Int.reduceLE, Int.reduceEq, Nat.reduceLT, Nat.reduceLeDiff, Nat.reduceEqDiff, decide_true, decide_false, decide_eq_true_eq, and_self, and_true, true_and, List.map_cons, List.map_nil, List.cons_append, List.nil_append, List.append_nil, List.replicate_succ, List.replicate_zero, List.length_cons, List.length_nil, List.getElem?_cons_zero, List.getElem?_cons_succ, List.set_cons_zero, List.set_cons_succ, Option.bind_some, Option.bind_none, Option.map_some, Option.map_none, Nat.reduceSub, Nat.reduceAdd, Nat.sub_self, Nat.add_zero, Nat.zero_add, ite_true, ite_false, if_true, if_false, Bool.false_eq_true, reduceCtorEq, List.take_length, rcv_join, rcv_split, rcv_find, rcv_index, rcv_indexL, rcv_count, rcv_append, rcv_extend, eqF_pp, fs_size, fs_locks, fs_walls, fs_prices, wp_eqI, wp_eqTI, b1, d2, d3, d4]
          all_goals try first | rfl | exact ⟨by simp [*], take_all rfl⟩ | simp [*]
        · have d4 : decide (ws = ws') = false := by simpa using h4
          try simp -implicitDefEqProofs only [↓w_bind, ↓w_inS, ↓w_inSb, ↓w_inSs, ↓w_cons, ↓wp_nil, ↓wE_var, ↓wE_cst, ↓wE_glob, ↓wE_pr, ↓w_kAnd, ↓w_kOr, ↓wE_and, ↓wE_or, ↓wE_not, ↓w_kNot, ↓w_kIte, ↓wE_ite, ↓wE_chain, ↓w_kCh1, ↓w_kCh2, ↓w_kCh3, ↓wE_chain3, ↓w_kDh1, ↓w_kDh2, ↓w_kDh3, ↓w_kDh4, ↓w_kDh5, ↓wT_chain3, ↓wE_comp, ↓w_kComp0, ↓w_kComp2f, ↓w_kComp2t, ↓wE_call, ↓wE_meth, ↓w_kMe1, ↓w_kMe2, ↓wE_mcall, ↓w_kMc0, ↓w_kMc1, ↓wE_new, ↓wE_fld, ↓wEs_nil, ↓wEs_cons, ↓w_kEs1, ↓w_kEs2, ↓wT_and, ↓wT_or, ↓wT_not, ↓w_kTA, ↓w_kTO, ↓w_kTN, ↓wT_var, ↓wT_cst, ↓wT_pr, ↓wT_chain, ↓wT_call, ↓wT_meth, ↓wT_mcall, ↓wT_fld, ↓wC_nil, ↓wC_cons, ↓w_kC, ↓w_kCf2, ↓w_kCf3, ↓wS_expr, ↓wS_asg, ↓wS_asT, ↓w_kAsT, ↓wS_par, ↓w_kPar, ↓wS_setix, ↓w_kSx1, ↓w_kSx2, ↓w_kSx3, ↓wS_setix2, ↓w_kSy1, ↓w_kSy2, ↓w_kSy3, ↓wS_setf, ↓w_kSf1, ↓w_kSf2, ↓wS_aug, ↓w_kAu, ↓wS_ret, ↓wS_retN, ↓wS_ifs, ↓w_kIf, ↓wS_for, ↓w_kFor, ↓wS_whl, ↓wS_brk, ↓wS_cnt, ↓wS_pass, ↓wS_raise, ↓wS_thru, ↓w_itN, ↓w_itP, ↓w_truU, ↓w_truL, ↓w_p1, ↓w_p1l, ↓w_p2, ↓w_p2l, ↓w_p2r, ↓w_eq, ↓w_ne, ↓w_eql, ↓w_nel, ↓w_tup, ↓w_lst, ↓w_lstT, ↓w_frUs0, ↓w_frUs1, ↓w_frUsL, wp_ok, wp_okP, wp_bad, wp_ite, wp_nxt, wp_rdp, wp_frp, wp_some, wp_finp, wp_newU, wp_rdl', wp_setix, wp_setf, wp_updL, wp_guard, kB_ap, kM_ap, kS_nx, kS_rt, kS_bk, kS_ct, kS_ex, kX_ap, kF_rt, kF_nx, kF_ex, oW_s, oW_n, oW_i, prE, bindA, Dfl.w, kCall, kMc2, kNew, truW, tagW, subT, addW, subW, modW, cmpW, ixW, lenW, seqW, isNon, boolsW, MO.frz, fldU, augM, augW, oB, oI, setsL, slW, wp_optI, itemsW, mulW_l', mulW_r', wp_eqI, bnd_nm, bnd_2, bnd_3, bnd_4, wipeL, ix20, ix21, ix30, ix31, ix32, List.any_cons, List.any_nil, String.reduceBEq, Bool.or_false, Bool.or_true, Bool.false_or, Bool.true_or, Bool.and_false, Bool.and_true, Bool.false_and, Bool.true_and, Bool.not_true, Bool.not_false, beq_self_eq_true, Int.reduceLT, Int.reduceLE, Int.reduceEq, Nat.reduceLT, Nat.reduceLeDiff, Nat.reduceEqDiff, decide_true, decide_false, decide_eq_true_eq, and_self, and_true, true_and, List.map_cons, List.map_nil, List.cons_append, List.nil_append, List.append_nil, List.replicate_succ, List.replicate_zero, List.length_cons, List.length_nil, List.getElem?_cons_zero, List.getElem?_cons_succ, List.set_cons_zero, List.set_cons_succ, Option.bind_some, Option.bind_none, Option.map_some, Option.map_none, Nat.reduceSub, Nat.reduceAdd, Nat.sub_self, Nat.add_zero, Nat.zero_add, ite_true, ite_false, if_true, if_false, Bool.false_eq_true, reduceCtorEq, List.take_length, rcv_join, rcv_split, rcv_find, rcv_index, rcv_indexL, rcv_count, rcv_append, rcv_extend, eqF_pp, fs_size, fs_locks, fs_walls, fs_prices, wp_eqI, wp_eqTI, b1, d2, d3, d4]
          all_goals try first | rfl | exact ⟨by simp [*], take_all rfl⟩ | simp [*]
      · have d3 : decide (ls = ls') = false := by simpa using h3
        try simp -implicitDefEqProofs only [↓w_bind, ↓w_inS, ↓w_inSb, ↓w_inSs, ↓w_cons, ↓wp_nil, ↓wE_var, ↓wE_cst, ↓wE_glob, ↓wE_pr, ↓w_kAnd, ↓w_kOr, ↓wE_and, ↓wE_or, ↓wE_not, ↓w_kNot, ↓w_kIte, ↓wE_ite, ↓wE_chain, ↓w_kCh1, ↓w_kCh2, ↓w_kCh3, ↓wE_chain3, ↓w_kDh1, ↓w_kDh2, ↓w_kDh3, ↓w_kDh4, ↓w_kDh5, ↓wT_chain3, ↓wE_comp, ↓w_kComp0, ↓w_kComp2f, ↓w_kComp2t, ↓wE_call, ↓wE_meth, ↓w_kMe1, ↓w_kMe2, ↓wE_mcall, ↓w_kMc0, ↓w_kMc1, ↓wE_new, ↓wE_fld, ↓wEs_nil, ↓wEs_cons, ↓w_kEs1, ↓w_kEs2, ↓wT_and, ↓wT_or, ↓wT_not, ↓w_kTA, ↓w_kTO, ↓w_kTN, ↓wT_var, ↓wT_cst, ↓wT_pr, ↓wT_chain, ↓wT_call, ↓wT_meth, ↓wT_mcall, ↓wT_fld, ↓wC_nil, ↓wC_cons, ↓w_kC, ↓w_kCf2, ↓w_kCf3, ↓wS_expr, ↓wS_asg, ↓wS_asT, ↓w_kAsT, ↓wS_par, ↓w_kPar, ↓wS_setix, ↓w_kSx1, ↓w_kSx2, ↓w_kSx3, ↓wS_setix2, ↓w_kSy1, ↓w_kSy2, ↓w_kSy3, ↓wS_setf, ↓w_kSf1, ↓w_kSf2, ↓wS_aug, ↓w_kAu, ↓wS_ret, ↓wS_retN, ↓wS_ifs, ↓w_kIf, ↓wS_for, ↓w_kFor, ↓wS_whl, ↓wS_brk, ↓wS_cnt, ↓wS_pass, ↓wS_raise, ↓wS_thru, ↓w_itN, ↓w_itP, ↓w_truU, ↓w_truL, ↓w_p1, ↓w_p1l, ↓w_p2, ↓w_p2l, ↓w_p2r, ↓w_eq, ↓w_ne, ↓w_eql, ↓w_nel, ↓w_tup, ↓w_lst, ↓w_lstT, ↓w_frUs0, ↓w_frUs1, ↓w_frUsL, wp_ok, wp_okP, wp_bad, wp_ite, wp_nxt, wp_rdp, wp_frp, wp_some, wp_finp, wp_newU, wp_rdl', wp_setix, wp_setf, wp_updL, wp_guard, kB_ap, kM_ap, kS_nx, kS_rt, kS_bk, kS_ct, kS_ex, kX_ap, kF_rt, kF_nx, kF_ex, oW_s, oW_n, oW_i, prE, bindA, Dfl.w, kCall, kMc2, kNew, truW, tagW, subT, addW, subW, modW, cmpW, ixW, lenW, seqW, isNon, boolsW, MO.frz, fldU, augM, augW, oB, oI, setsL, slW, wp_optI, itemsW, mulW_l', mulW_r', wp_eqI, bnd_nm, bnd_2, bnd_3, bnd_4, wipeL, ix20, ix21, ix30, ix31, ix32, List.any_cons, List.any_nil, String.reduceBEq, Bool.or_false, Bool.or_true, Bool.false_or, Bool.true_or, Bool.and_false, Bool.and_true, Bool.false_and, Bool.true_and, Bool.not_true, Bool.not_false, beq_self_eq_true, Int.reduceLT, Int.reduceLE, Int.reduceEq, Nat.reduceLT, Nat.reduceLeDiff, Nat.reduceEqDiff, decide_true, decide_false, decide_eq_true_eq, and_self, and_true, true_and, List.map_cons, List.map_nil, List.cons_append, List.nil_append, List.append_nil, List.replicate_succ, List.replicate_zero, List.length_cons, List.length_nil, List.getElem?_cons_zero, List.getElem?_cons_succ, List.set_cons_zero, List.set_cons_succ, Option.bind_some, Option.bind_none, Option.map_some, Option.map_none, Nat.reduceSub, Nat.reduceAdd, Nat.sub_self, Nat.add_zero, Nat.zero_add, ite_true, ite_false, if_true, if_false, Bool.false_eq_true, reduceCtorEq, List.take_length, rcv_join, rcv_split, rcv_find, rcv_index, rcv_indexL, rcv_count, rcv_append, rcv_extend, eqF_pp, fs_size, fs_locks, fs_walls, fs_prices, wp_eqI, wp_eqTI, b1, d2, d3]
        all_goals try first | rfl | exact ⟨by simp [*], take_all rfl⟩ | simp [*]
    · have d2 : decide (ps = ps') = false := by simpa using h2
      try simp -implicitDefEqProofs only [↓w_bind, ↓w_inS, ↓w_inSb, ↓w_inSs, ↓w_cons, ↓wp_nil, ↓wE_var, ↓wE_cst, ↓wE_glob, ↓wE_pr, ↓w_kAnd, ↓w_kOr, ↓wE_and, ↓wE_or, ↓wE_not, ↓w_kNot, ↓w_kIte, ↓wE_ite, ↓wE_chain, ↓w_kCh1, ↓w_kCh2, ↓w_kCh3, ↓wE_chain3, ↓w_kDh1, ↓w_kDh2, ↓w_kDh3, ↓w_kDh4, ↓w_kDh5, ↓wT_chain3, ↓wE_comp, ↓w_kComp0, ↓w_kComp2f, ↓w_kComp2t, ↓wE_call, ↓wE_meth, ↓w_kMe1, ↓w_kMe2, ↓wE_mcall, ↓w_kMc0, ↓w_kMc1, ↓wE_new, ↓wE_fld, ↓wEs_nil, ↓wEs_cons, ↓w_kEs1, ↓w_kEs2, ↓wT_and, ↓wT_or, ↓wT_not, ↓w_kTA, ↓w_kTO, ↓w_kTN, ↓wT_var, ↓wT_cst, ↓wT_pr, ↓wT_chain, ↓wT_call, ↓wT_meth, ↓wT_mcall, ↓wT_fld, ↓wC_nil, ↓wC_cons, ↓w_kC, ↓w_kCf2, ↓w_kCf3, ↓wS_expr, ↓wS_asg, ↓wS_asT, ↓w_kAsT, ↓wS_par, ↓w_kPar, ↓wS_setix, ↓w_kSx1, ↓w_kSx2, ↓w_kSx3, ↓wS_setix2, ↓w_kSy1, ↓w_kSy2, ↓w_kSy3, ↓wS_setf, ↓w_kSf1, ↓w_kSf2, ↓wS_aug, ↓w_kAu, ↓wS_ret, ↓wS_retN, ↓wS_ifs, ↓w_kIf, ↓wS_for, ↓w_kFor, ↓wS_whl, ↓wS_brk, ↓wS_cnt, ↓wS_pass, ↓wS_raise, ↓wS_thru, ↓w_itN, ↓w_itP, ↓w_truU, ↓w_truL, ↓w_p1, ↓w_p1l, ↓w_p2, ↓w_p2l, ↓w_p2r, ↓w_eq, ↓w_ne, ↓w_eql, ↓w_nel, ↓w_tup, ↓w_lst, ↓w_lstT, ↓w_frUs0, ↓w_frUs1, ↓w_frUsL, wp_ok, wp_okP, wp_bad, wp_ite, wp_nxt, wp_rdp, wp_frp, wp_some, wp_finp, wp_newU, wp_rdl', wp_setix, wp_setf, wp_updL, wp_guard, kB_ap, kM_ap, kS_nx, kS_rt, kS_bk, kS_ct, kS_ex, kX_ap, kF_rt, kF_nx, kF_ex, oW_s, oW_n, oW_i, prE, bindA, Dfl.w, kCall, kMc2, kNew, truW, tagW, subT, addW, subW, modW, cmpW, ixW, lenW, seqW, isNon, boolsW, MO.frz, fldU, augM, augW, oB, oI, setsL, slW, wp_optI, itemsW, mulW_l', mulW_r', wp_eqI, bnd_nm, bnd_2, bnd_3, bnd_4, wipeL, ix20, ix21, ix30, ix31, ix32, List.any_cons, List.any_nil, String.reduceBEq, Bool.or_false, Bool.or_true, Bool.false_or, Bool.true_or, Bool.and_false, Bool.and_true, Bool.false_and, Bool.true_and, Bool.not_true, Bool.not_false, beq_self_eq_true, Int.reduceLT, Int.reduceLE, Int.reduceEq, Nat.reduceLT, Nat.reduceLeDiff, Nat.reduceEqDiff, decide_true, decide_false, decide_eq_true_eq, and_self, and_true, true_and, List.map_cons, List.map_nil, List.cons_append, List.nil_append, List.append_nil, List.replicate_succ, List.replicate_zero, List.length_cons, List.length_nil, List.getElem?_cons_zero, List.getElem?_cons_succ, List.set_cons_zero, List.set_cons_succ, Option.bind_some, Option.bind_none, Option.map_some, Option.map_none, Nat.reduceSub, Nat.reduceAdd, Nat.sub_self, Nat.add_zero, Nat.zero_add, ite_true, ite_false, if_true, if_false, Bool.false_eq_true, reduceCtorEq, List.take_length, rcv_join, rcv_split, rcv_find, rcv_index, rcv_indexL, rcv_count, rcv_append, rcv_extend, eqF_pp, fs_size, fs_locks, fs_walls, fs_prices, wp_eqI, wp_eqTI, b1, d2]
      all_goals try first | rfl | exact ⟨by simp [*], take_all rfl⟩ | simp [*]
  · have b1 : (n == n') = false := by simpa using h1
    try simp -implicitDefEqProofs only [↓w_bind, ↓w_inS, ↓w_inSb, ↓w_inSs, ↓w_cons, ↓wp_nil, ↓wE_var, ↓wE_cst, ↓wE_glob, ↓wE_pr, ↓w_kAnd, ↓w_kOr, ↓wE_and, ↓wE_or, ↓wE_not, ↓w_kNot, ↓w_kIte, ↓wE_ite, ↓wE_chain, ↓w_kCh1, ↓w_kCh2, ↓w_kCh3, ↓wE_chain3, ↓w_kDh1, ↓w_kDh2, ↓w_kDh3, ↓w_kDh4, ↓w_kDh5, ↓wT_chain3, ↓wE_comp, ↓w_kComp0, ↓w_kComp2f, ↓w_kComp2t, ↓wE_call, ↓wE_meth, ↓w_kMe1, ↓w_kMe2, ↓wE_mcall, ↓w_kMc0, ↓w_kMc1, ↓wE_new, ↓wE_fld, ↓wEs_nil, ↓wEs_cons, ↓w_kEs1, ↓w_kEs2, ↓wT_and, ↓wT_or, ↓wT_not, ↓w_kTA, ↓w_kTO, ↓w_kTN, ↓wT_var, ↓wT_cst, ↓wT_pr, ↓wT_chain, ↓wT_call, ↓wT_meth, ↓wT_mcall, ↓wT_fld, ↓wC_nil, ↓wC_cons, ↓w_kC, ↓w_kCf2, ↓w_kCf3, ↓wS_expr, ↓wS_asg, ↓wS_asT, ↓w_kAsT, ↓wS_par, ↓w_kPar, ↓wS_setix, ↓w_kSx1, ↓w_kSx2, ↓w_kSx3, ↓wS_setix2, ↓w_kSy1, ↓w_kSy2, ↓w_kSy3, ↓wS_setf, ↓w_kSf1, ↓w_kSf2, ↓wS_aug, ↓w_kAu, ↓wS_ret, ↓wS_retN, ↓wS_ifs, ↓w_kIf, ↓wS_for, ↓w_kFor, ↓wS_whl, ↓wS_brk, ↓wS_cnt, ↓wS_pass, ↓wS_raise, ↓wS_thru, ↓w_itN, ↓w_itP, ↓w_truU, ↓w_truL, ↓w_p1, ↓w_p1l, ↓w_p2, ↓w_p2l, ↓w_p2r, ↓w_eq, ↓w_ne, ↓w_eql, ↓w_nel, ↓w_tup, ↓w_lst, ↓w_lstT, ↓w_frUs0, ↓w_frUs1, ↓w_frUsL, wp_ok, wp_okP, wp_bad, wp_ite, wp_nxt, wp_rdp, wp_frp, wp_some, wp_finp, wp_newU, wp_rdl', wp_setix, wp_setf, wp_updL, wp_guard, kB_ap, kM_ap, kS_nx, kS_rt, kS_bk, kS_ct, kS_ex, kX_ap, kF_rt, kF_nx, kF_ex, oW_s, oW_n, oW_i, prE, bindA, Dfl.w, kCall, kMc2, kNew, truW, tagW, subT, addW, subW, modW, cmpW, ixW, lenW, seqW, isNon, boolsW, MO.frz, fldU, augM, augW, oB, oI, setsL, slW, wp_optI, itemsW, mulW_l', mulW_r', wp_eqI, bnd_nm, bnd_2, bnd_3, bnd_4, wipeL, ix20, ix21, ix30, ix31, ix32, List.any_cons, List.any_nil, String.reduceBEq, Bool.or_false, Bool.or_true, Bool.false_or, Bool.true_or, Bool.and_false, Bool.and_true, Bool.false_and, Bool.true_and, Bool.not_true, Bool.not_false, beq_self_eq_true, Int.reduceLT, Int.reduceLE, Int.reduceEq, Nat.reduceLT, Nat.reduceLeDiff, Nat.reduceEqDiff, decide_true, decide_false, decide_eq_true_eq, and_self, and_true, true_and, List.map_cons, List.map_nil, List.cons_append, List.nil_append, List.append_nil, List.replicate_succ, List.replicate_zero, List.length_cons, List.length_nil, List.getElem?_cons_zero, List.getElem?_cons_succ, List.set_cons_zero, List.set_cons_succ, Option.bind_some, Option.bind_none, Option.map_some, Option.map_none, Nat.reduceSub, Nat.reduceAdd, Nat.sub_self, Nat.add_zero, Nat.zero_add, ite_true, ite_false, if_true, if_false, Bool.false_eq_true, reduceCtorEq, List.take_length, rcv_join, rcv_split, rcv_find, rcv_index, rcv_indexL, rcv_count, rcv_append, rcv_extend, eqF_pp, fs_size, fs_locks, fs_walls, fs_prices, wp_eqI, wp_eqTI, b1]
    all_goals try first | rfl | exact ⟨by simp [*], take_all rfl⟩ | simp [*]
/-- what is no ring -/
def Odd (w : W) : Prop := bltW w = true ∧ ∃ t, tagW w = some t ∧ subT t "Ring" = false
theorem ring_eqO {k : Nat} {n : Int} {ls ws ps : List Int} {w : W} (h : Odd w) : callM P (k + 1) "Ring.__eq__" [.p (ringW n ls ws (iW ps)), .p w] = okP (.bl false) := by
  obtain ⟨hb, t, ht, hs⟩ := h
  refine eq_of_wp fun S => w_call fn_Ringu_equ rfl ?_
  simp only [b_Ringu_equ]
  cases w <;> simp only [bltW, Bool.false_eq_true] at hb
  all_goals try simp -implicitDefEqProofs only [↓w_bind, ↓w_inS, ↓w_inSb, ↓w_inSs, ↓w_cons, ↓wp_nil, ↓wE_var, ↓wE_cst, ↓wE_glob, ↓wE_pr, ↓w_kAnd, ↓w_kOr, ↓wE_and, ↓wE_or, ↓wE_not, ↓w_kNot, ↓w_kIte, ↓wE_ite, ↓wE_chain, ↓w_kCh1, ↓w_kCh2, ↓w_kCh3, ↓wE_chain3, ↓w_kDh1, ↓w_kDh2, ↓w_kDh3, ↓w_kDh4, ↓w_kDh5, ↓wT_chain3, ↓wE_comp, ↓w_kComp0, ↓w_kComp2f, ↓w_kComp2t, ↓wE_call, ↓wE_meth, ↓w_kMe1, ↓w_kMe2, ↓wE_mcall, ↓w_kMc0, ↓w_kMc1, ↓wE_new, ↓wE_fld, ↓wEs_nil, ↓wEs_cons, ↓w_kEs1, ↓w_kEs2, ↓wT_and, ↓wT_or, ↓wT_not, ↓w_kTA, ↓w_kTO, ↓w_kTN, ↓wT_var, ↓wT_cst, ↓wT_pr, ↓wT_chain, ↓wT_call, ↓wT_meth, ↓wT_mcall, ↓wT_fld, ↓wC_nil, ↓wC_cons, ↓w_kC, ↓w_kCf2, ↓w_kCf3, ↓wS_expr, ↓wS_asg, ↓wS_asT, ↓w_kAsT, ↓wS_par, ↓w_kPar, ↓wS_setix, ↓w_kSx1, ↓w_kSx2, ↓w_kSx3, ↓wS_setix2, ↓w_kSy1, ↓w_kSy2, ↓w_kSy3, ↓wS_setf, ↓w_kSf1, ↓w_kSf2, ↓wS_aug, ↓w_kAu, ↓wS_ret, ↓wS_retN, ↓wS_ifs, ↓w_kIf, ↓wS_for, ↓w_kFor, ↓wS_whl, ↓wS_brk, ↓wS_cnt, ↓wS_pass, ↓wS_raise, ↓wS_thru, ↓w_itN, ↓w_itP, ↓w_truU, ↓w_truL, ↓w_p1, ↓w_p1l, ↓w_p2, ↓w_p2l, ↓w_p2r, ↓w_eq, ↓w_ne, ↓w_eql, ↓w_nel, ↓w_tup, ↓w_lst, ↓w_lstT, ↓w_frUs0, ↓w_frUs1, ↓w_frUsL, wp_ok, wp_okP, wp_bad, wp_ite, wp_nxt, wp_rdp, wp_frp, wp_some, wp_finp, wp_newU, wp_rdl', wp_setix, wp_setf, wp_updL, wp_guard, kB_ap, kM_ap, kS_nx, kS_rt, kS_bk, kS_ct, kS_ex, kX_ap, kF_rt, kF_nx, kF_ex, oW_s, oW_n, oW_i, prE, bindA, Dfl.w, kCall, kMc2, kNew, truW, tagW, subT, addW, subW, modW, cmpW, ixW, lenW, seqW, isNon, boolsW, MO.frz, fldU, augM, augW, oB, oI, setsL, slW, wp_optI, itemsW, mulW_l', mulW_r', wp_eqI, bnd_nm, bnd_2, bnd_3, bnd_4, wipeL, ix20, ix21, ix30, ix31, ix32, List.any_cons, List.any_nil, String.reduceBEq, Bool.or_false, Bool.or_true, Bool.false_or, Bool.true_or, Bool.and_false, Bool.and_true, Bool.false_and, Bool.true_and, Bool.not_true, Bool.not_false, beq_self_eq_true, Int.reduceLT, Int.reduceLE, Int.reduceEq, Nat.reduceLT, Nat.reduceLeDiff, Nat.reduceEqDiff, decide_true, decide_false, decide_eq_true_eq, and_self, and_true, true_and, List.map_cons, List.map_nil, List.cons_append, List.nil_append, List.append_nil, List.replicate_succ, List.replicate_zero, List.length_cons, List.length_nil, List.getElem?_cons_zero, List.getElem?_cons_succ, List.set_cons_zero, List.set_cons_succ, Option.bind_some, Option.bind_none, Option.map_some, Option.map_none, Nat.reduceSub, Nat.reduceAdd, Nat.sub_self, Nat.add_zero, Nat.zero_add, ite_true, ite_false, if_true, if_false, Bool.false_eq_true, reduceCtorEq, List.take_length, rcv_join, rcv_split, rcv_find, rcv_index, rcv_indexL, rcv_count, rcv_append, rcv_extend, eqF_pp]
  all_goals try first | rfl | exact ⟨rfl, take_all rfl⟩
/-- both ways, == and != -/
def Cmp (k : Nat) (a b : W) (d : Bool) : Prop := (∀ {Q : Bool → Sto → Prop} {E : WE} {S : Sto}, Wp (eqM (callM P k) a b) Q E S = Q d S) ∧ ∀ {Q : Bool → Sto → Prop} {E : WE} {S : Sto}, Wp (eqM (callM P k) b a) Q E S = Q d S
theorem cmp_ring {k : Nat} {n n' : Int} {ls ws ps ls' ws' ps' : List Int} {d : Bool} (h : decide (n = n' ∧ ps = ps' ∧ ls = ls' ∧ ws = ws') = d) : Cmp (k + 1) (ringW n ls ws (iW ps)) (ringW n' ls' ws' (iW ps')) d := by
  have e1 := ring_eqD (k := k) (n := n) (ls := ls) (ws := ws) (ps := ps) (n' := n') (ls' := ls') (ws' := ws') (ps' := ps')
  have e2 := ring_eqD (k := k) (n := n') (ls := ls') (ws := ws') (ps := ps') (n' := n) (ls' := ls) (ws' := ws) (ps' := ps)
  have h2 : decide (n' = n ∧ ps' = ps ∧ ls' = ls ∧ ws' = ws) = d := by
    rw [← h]
    apply Bool.eq_iff_iff.mpr
    simp only [decide_eq_true_eq]
    constructor
    · rintro ⟨rfl, rfl, rfl, rfl⟩; exact ⟨rfl, rfl, rfl, rfl⟩
    · rintro ⟨rfl, rfl, rfl, rfl⟩; exact ⟨rfl, rfl, rfl, rfl⟩
  rw [h] at e1
  rw [h2] at e2
  unfold ringW at e1 e2 ⊢
  constructor
  · intro Q E S
    rw [wp_eqO, show ("Ring" ++ ".__eq__" : String) = "Ring.__eq__" by decide, e1]
    rfl
  · intro Q E S
    rw [wp_eqO, show ("Ring" ++ ".__eq__" : String) = "Ring.__eq__" by decide, e2]
    rfl
theorem cmp_odd {k : Nat} {n : Int} {ls ws ps : List Int} {w : W} (h : Odd w) : Cmp (k + 1) (ringW n ls ws (iW ps)) w false := by
  have e1 := ring_eqO (k := k) (n := n) (ls := ls) (ws := ws) (ps := ps) h
  unfold ringW at e1 ⊢
  have one : ∀ {Q : Bool → Sto → Prop} {E : WE} {S : Sto}, Wp (eqM (callM P (k + 1)) (.obj "Ring" [(Str.ofString "size", .int n), (Str.ofString "locks", .tup (iW ls)), (Str.ofString "walls", .tup (iW ws)), (Str.ofString "prices", .tup (iW ps))]) w) Q E S = Q false S := by
    intro Q E S
    rw [wp_eqB1 h.1, show ("Ring" ++ ".__eq__" : String) = "Ring.__eq__" by decide, e1]
    rfl
  refine ⟨one, ?_⟩
  intro Q E S
  rw [wp_eqB2 h.1, one]
theorem law_alike_eq {k : Nat} {a b : W} {d : Bool} (h : Cmp k a b d) : callM P (k + 1) "_law_alike" [.p a, .p b, .p (.bl d)] = okP (.bl true) := by
  obtain ⟨h1, h2⟩ := h
  refine eq_of_wp fun S => w_call fn__law_alike rfl ?_
  simp only [b__law_alike]
  have m4 : mulW (.lst [.bl d]) (.int 4) = some (.lst [.bl d, .bl d, .bl d, .bl d]) := rfl
  have nn : (!(!d)) = d := by cases d <;> rfl
  have dd : ∀ {f : String → List U → M U} {Q : Bool → Sto → Prop} {E : WE} {S : Sto}, Wp (eqM f (.lst [.bl d, .bl d, .bl d, .bl d]) (.lst [.bl d, .bl d, .bl d, .bl d])) Q E S = Q true S := wp_eqX (by cases d <;> decide) (by cases d <;> decide)
  try simp -implicitDefEqProofs only [↓w_bind, ↓w_inS, ↓w_inSb, ↓w_inSs, ↓w_cons, ↓wp_nil, ↓wE_var, ↓wE_cst, ↓wE_glob, ↓wE_pr, ↓w_kAnd, ↓w_kOr, ↓wE_and, ↓wE_or, ↓wE_not, ↓w_kNot, ↓w_kIte, ↓wE_ite, ↓wE_chain, ↓w_kCh1, ↓w_kCh2, ↓w_kCh3, ↓wE_chain3, ↓w_kDh1, ↓w_kDh2, ↓w_kDh3, ↓w_kDh4, ↓w_kDh5, ↓wT_chain3, ↓wE_comp, ↓w_kComp0, ↓w_kComp2f, ↓w_kComp2t, ↓wE_call, ↓wE_meth, ↓w_kMe1, ↓w_kMe2, ↓wE_mcall, ↓w_kMc0, ↓w_kMc1, ↓wE_new, ↓wE_fld, ↓wEs_nil, ↓wEs_cons, ↓w_kEs1, ↓w_kEs2, ↓wT_and, ↓wT_or, ↓wT_not, ↓w_kTA, ↓w_kTO, ↓w_kTN, ↓wT_var, ↓wT_cst, ↓wT_pr, ↓wT_chain, ↓wT_call, ↓wT_meth, ↓wT_mcall, ↓wT_fld, ↓wC_nil, ↓wC_cons, ↓w_kC, ↓w_kCf2, ↓w_kCf3, ↓wS_expr, ↓wS_asg, ↓wS_asT, ↓w_kAsT, ↓wS_par, ↓w_kPar, ↓wS_setix, ↓w_kSx1, ↓w_kSx2, ↓w_kSx3, ↓wS_setix2, ↓w_kSy1, ↓w_kSy2, ↓w_kSy3, ↓wS_setf, ↓w_kSf1, ↓w_kSf2, ↓wS_aug, ↓w_kAu, ↓wS_ret, ↓wS_retN, ↓wS_ifs, ↓w_kIf, ↓wS_for, ↓w_kFor, ↓wS_whl, ↓wS_brk, ↓wS_cnt, ↓wS_pass, ↓wS_raise, ↓wS_thru, ↓w_itN, ↓w_itP, ↓w_truU, ↓w_truL, ↓w_p1, ↓w_p1l, ↓w_p2, ↓w_p2l, ↓w_p2r, ↓w_eq, ↓w_ne, ↓w_eql, ↓w_nel, ↓w_tup, ↓w_lst, ↓w_lstT, ↓w_frUs0, ↓w_frUs1, ↓w_frUsL, wp_ok, wp_okP, wp_bad, wp_ite, wp_nxt, wp_rdp, wp_frp, wp_some, wp_finp, wp_newU, wp_rdl', wp_setix, wp_setf, wp_updL, wp_guard, kB_ap, kM_ap, kS_nx, kS_rt, kS_bk, kS_ct, kS_ex, kX_ap, kF_rt, kF_nx, kF_ex, oW_s, oW_n, oW_i, prE, bindA, Dfl.w, kCall, kMc2, kNew, truW, tagW, subT, addW, subW, modW, cmpW, ixW, lenW, seqW, isNon, boolsW, MO.frz, fldU, augM, augW, oB, oI, setsL, slW, wp_optI, itemsW, mulW_l', mulW_r', wp_eqI, bnd_nm, bnd_2, bnd_3, bnd_4, wipeL, ix20, ix21, ix30, ix31, ix32, List.any_cons, List.any_nil, String.reduceBEq, Bool.or_false, Bool.or_true, Bool.false_or, Bool.true_or, Bool.and_false, Bool.and_true, Bool.false_and, Bool.true_and, Bool.not_true, Bool.not_false, beq_self_eq_true, Int.reduceLT, Int.reduceLE, Int.reduceEq, Nat.reduceLT, Nat.reduceLeDiff, Nat.reduceEqDiff, decide_true, decide_false, decide_eq_true_eq, and_self, and_true, true_and, List.map_cons, List.map_nil, List.cons_append, List.nil_append, List.append_nil, List.replicate_succ, List.replicate_zero, List.length_cons, List.length_nil, List.getElem?_cons_zero, List.getElem?_cons_succ, List.set_cons_zero, List.set_cons_succ, Option.bind_some, Option.bind_none, Option.map_some, Option.map_none, Nat.reduceSub, Nat.reduceAdd, Nat.sub_self, Nat.add_zero, Nat.zero_add, ite_true, ite_false, if_true, if_false, Bool.false_eq_true, reduceCtorEq, List.take_length, rcv_join, rcv_split, rcv_find, rcv_index, rcv_indexL, rcv_count, rcv_append, rcv_extend, eqF_pp, h1, h2, nn, itU, walkU, itemsW, wp_guard]
  refine ⟨by decide, ?_⟩
  rw [wp_compM (g := fun _ => .bl true) fun w hw => ?_]
  · have bx : boolsW [W.bl true, W.bl true, W.bl true, W.bl true] = some [true, true, true, true] := rfl
    try simp -implicitDefEqProofs only [↓w_bind, ↓w_inS, ↓w_inSb, ↓w_inSs, ↓w_cons, ↓wp_nil, ↓wE_var, ↓wE_cst, ↓wE_glob, ↓wE_pr, ↓w_kAnd, ↓w_kOr, ↓wE_and, ↓wE_or, ↓wE_not, ↓w_kNot, ↓w_kIte, ↓wE_ite, ↓wE_chain, ↓w_kCh1, ↓w_kCh2, ↓w_kCh3, ↓wE_chain3, ↓w_kDh1, ↓w_kDh2, ↓w_kDh3, ↓w_kDh4, ↓w_kDh5, ↓wT_chain3, ↓wE_comp, ↓w_kComp0, ↓w_kComp2f, ↓w_kComp2t, ↓wE_call, ↓wE_meth, ↓w_kMe1, ↓w_kMe2, ↓wE_mcall, ↓w_kMc0, ↓w_kMc1, ↓wE_new, ↓wE_fld, ↓wEs_nil, ↓wEs_cons, ↓w_kEs1, ↓w_kEs2, ↓wT_and, ↓wT_or, ↓wT_not, ↓w_kTA, ↓w_kTO, ↓w_kTN, ↓wT_var, ↓wT_cst, ↓wT_pr, ↓wT_chain, ↓wT_call, ↓wT_meth, ↓wT_mcall, ↓wT_fld, ↓wC_nil, ↓wC_cons, ↓w_kC, ↓w_kCf2, ↓w_kCf3, ↓wS_expr, ↓wS_asg, ↓wS_asT, ↓w_kAsT, ↓wS_par, ↓w_kPar, ↓wS_setix, ↓w_kSx1, ↓w_kSx2, ↓w_kSx3, ↓wS_setix2, ↓w_kSy1, ↓w_kSy2, ↓w_kSy3, ↓wS_setf, ↓w_kSf1, ↓w_kSf2, ↓wS_aug, ↓w_kAu, ↓wS_ret, ↓wS_retN, ↓wS_ifs, ↓w_kIf, ↓wS_for, ↓w_kFor, ↓wS_whl, ↓wS_brk, ↓wS_cnt, ↓wS_pass, ↓wS_raise, ↓wS_thru, ↓w_itN, ↓w_itP, ↓w_truU, ↓w_truL, ↓w_p1, ↓w_p1l, ↓w_p2, ↓w_p2l, ↓w_p2r, ↓w_eq, ↓w_ne, ↓w_eql, ↓w_nel, ↓w_tup, ↓w_lst, ↓w_lstT, ↓w_frUs0, ↓w_frUs1, ↓w_frUsL, wp_ok, wp_okP, wp_bad, wp_ite, wp_nxt, wp_rdp, wp_frp, wp_some, wp_finp, wp_newU, wp_rdl', wp_setix, wp_setf, wp_updL, wp_guard, kB_ap, kM_ap, kS_nx, kS_rt, kS_bk, kS_ct, kS_ex, kX_ap, kF_rt, kF_nx, kF_ex, oW_s, oW_n, oW_i, prE, bindA, Dfl.w, kCall, kMc2, kNew, truW, tagW, subT, addW, subW, modW, cmpW, ixW, lenW, seqW, isNon, boolsW, MO.frz, fldU, augM, augW, oB, oI, setsL, slW, wp_optI, itemsW, mulW_l', mulW_r', wp_eqI, bnd_nm, bnd_2, bnd_3, bnd_4, wipeL, ix20, ix21, ix30, ix31, ix32, List.any_cons, List.any_nil, String.reduceBEq, Bool.or_false, Bool.or_true, Bool.false_or, Bool.true_or, Bool.and_false, Bool.and_true, Bool.false_and, Bool.true_and, Bool.not_true, Bool.not_false, beq_self_eq_true, Int.reduceLT, Int.reduceLE, Int.reduceEq, Nat.reduceLT, Nat.reduceLeDiff, Nat.reduceEqDiff, decide_true, decide_false, decide_eq_true_eq, and_self, and_true, true_and, List.map_cons, List.map_nil, List.cons_append, List.nil_append, List.append_nil, List.replicate_succ, List.replicate_zero, List.length_cons, List.length_nil, List.getElem?_cons_zero, List.getElem?_cons_succ, List.set_cons_zero, List.set_cons_succ, Option.bind_some, Option.bind_none, Option.map_some, Option.map_none, Nat.reduceSub, Nat.reduceAdd, Nat.sub_self, Nat.add_zero, Nat.zero_add, ite_true, ite_false, if_true, if_false, Bool.false_eq_true, reduceCtorEq, List.take_length, rcv_join, rcv_split, rcv_find, rcv_index, rcv_indexL, rcv_count, rcv_append, rcv_extend, eqF_pp, bx, List.all_cons, List.all_nil, id, m4, dd]
    all_goals try first | rfl | exact ⟨rfl, take_all rfl⟩
  · simp only [List.mem_cons, List.not_mem_nil, or_false, or_self] at hw
    subst hw
    rw [w_compF rfl]
    try simp -implicitDefEqProofs only [↓w_bind, ↓w_inS, ↓w_inSb, ↓w_inSs, ↓w_cons, ↓wp_nil, ↓wE_var, ↓wE_cst, ↓wE_glob, ↓wE_pr, ↓w_kAnd, ↓w_kOr, ↓wE_and, ↓wE_or, ↓wE_not, ↓w_kNot, ↓w_kIte, ↓wE_ite, ↓wE_chain, ↓w_kCh1, ↓w_kCh2, ↓w_kCh3, ↓wE_chain3, ↓w_kDh1, ↓w_kDh2, ↓w_kDh3, ↓w_kDh4, ↓w_kDh5, ↓wT_chain3, ↓wE_comp, ↓w_kComp0, ↓w_kComp2f, ↓w_kComp2t, ↓wE_call, ↓wE_meth, ↓w_kMe1, ↓w_kMe2, ↓wE_mcall, ↓w_kMc0, ↓w_kMc1, ↓wE_new, ↓wE_fld, ↓wEs_nil, ↓wEs_cons, ↓w_kEs1, ↓w_kEs2, ↓wT_and, ↓wT_or, ↓wT_not, ↓w_kTA, ↓w_kTO, ↓w_kTN, ↓wT_var, ↓wT_cst, ↓wT_pr, ↓wT_chain, ↓wT_call, ↓wT_meth, ↓wT_mcall, ↓wT_fld, ↓wC_nil, ↓wC_cons, ↓w_kC, ↓w_kCf2, ↓w_kCf3, ↓wS_expr, ↓wS_asg, ↓wS_asT, ↓w_kAsT, ↓wS_par, ↓w_kPar, ↓wS_setix, ↓w_kSx1, ↓w_kSx2, ↓w_kSx3, ↓wS_setix2, ↓w_kSy1, ↓w_kSy2, ↓w_kSy3, ↓wS_setf, ↓w_kSf1, ↓w_kSf2, ↓wS_aug, ↓w_kAu, ↓wS_ret, ↓wS_retN, ↓wS_ifs, ↓w_kIf, ↓wS_for, ↓w_kFor, ↓wS_whl, ↓wS_brk, ↓wS_cnt, ↓wS_pass, ↓wS_raise, ↓wS_thru, ↓w_itN, ↓w_itP, ↓w_truU, ↓w_truL, ↓w_p1, ↓w_p1l, ↓w_p2, ↓w_p2l, ↓w_p2r, ↓w_eq, ↓w_ne, ↓w_eql, ↓w_nel, ↓w_tup, ↓w_lst, ↓w_lstT, ↓w_frUs0, ↓w_frUs1, ↓w_frUsL, wp_ok, wp_okP, wp_bad, wp_ite, wp_nxt, wp_rdp, wp_frp, wp_some, wp_finp, wp_newU, wp_rdl', wp_setix, wp_setf, wp_updL, wp_guard, kB_ap, kM_ap, kS_nx, kS_rt, kS_bk, kS_ct, kS_ex, kX_ap, kF_rt, kF_nx, kF_ex, oW_s, oW_n, oW_i, prE, bindA, Dfl.w, kCall, kMc2, kNew, truW, tagW, subT, addW, subW, modW, cmpW, ixW, lenW, seqW, isNon, boolsW, MO.frz, fldU, augM, augW, oB, oI, setsL, slW, wp_optI, itemsW, mulW_l', mulW_r', wp_eqI, bnd_nm, bnd_2, bnd_3, bnd_4, wipeL, ix20, ix21, ix30, ix31, ix32, List.any_cons, List.any_nil, String.reduceBEq, Bool.or_false, Bool.or_true, Bool.false_or, Bool.true_or, Bool.and_false, Bool.and_true, Bool.false_and, Bool.true_and, Bool.not_true, Bool.not_false, beq_self_eq_true, Int.reduceLT, Int.reduceLE, Int.reduceEq, Nat.reduceLT, Nat.reduceLeDiff, Nat.reduceEqDiff, decide_true, decide_false, decide_eq_true_eq, and_self, and_true, true_and, List.map_cons, List.map_nil, List.cons_append, List.nil_append, List.append_nil, List.replicate_succ, List.replicate_zero, List.length_cons, List.length_nil, List.getElem?_cons_zero, List.getElem?_cons_succ, List.set_cons_zero, List.set_cons_succ, Option.bind_some, Option.bind_none, Option.map_some, Option.map_none, Nat.reduceSub, Nat.reduceAdd, Nat.sub_self, Nat.add_zero, Nat.zero_add, ite_true, ite_false, if_true, if_false, Bool.false_eq_true, reduceCtorEq, List.take_length, rcv_join, rcv_split, rcv_find, rcv_index, rcv_indexL, rcv_count, rcv_append, rcv_extend, eqF_pp]
end L_k05
end
section
set_option Elab.async false
set_option linter.all false
set_option maxHeartbeats 2000000
set_option maxRecDepth 100000
namespace L_k05
open PySem Pm
def Oth (n : Int) (ls ws ps : List Int) (w : W) : Prop := ∃ n' ls' ws' ps', w = factsW n' ls' ws' ps' ∧ RF n' ls' ws' ps' ∧ ¬(n = n' ∧ ps = ps' ∧ ls = ls' ∧ ws = ws')
def flipI (n at_ : Int) (ls : List Int) : List Int := (Seg.rI 0 n).filter fun x => decide (x ∈ ls) != (x == at_)
def flipW (at_ : Int) (ls : List Int) : W → Bool
  | .int x => decide (x ∈ ls) != (x == at_)
  | _ => false
theorem rng_rI' {lo hi : Int} : rng lo hi = iW (Seg.rI lo hi) := rng_eq lo hi
theorem flip_all {n at_ : Int} {ls : List Int} : (rng 0 n).filter (flipW at_ ls) = iW (flipI n at_ ls) := by
  rw [rng_eq]
  unfold flipI iW
  rw [List.filter_map]
  rfl
theorem flip_asc {n at_ : Int} {ls : List Int} (hn : 0 < n) : Asc 0 (n - 1) (flipI n at_ ls) := by
  have := (Seg.rI_asc (lo := 0) (hi := n)).sub (List.filter_sublist (p := fun x => decide (x ∈ ls) != (x == at_)))
  rw [show (0 : Int) + ((n - 0).toNat : Int) - 1 = n - 1 by omega] at this
  exact this
theorem flip_ne {n at_ : Int} {ls : List Int} (h0 : 0 ≤ at_) (h1 : at_ < n) : ls ≠ flipI n at_ ls := by
  intro e
  have : at_ ∈ flipI n at_ ls ↔ ¬ at_ ∈ ls := by
    unfold flipI
    rw [List.mem_filter, Seg.rI_mem]
    simp [h0, h1]
  rw [← e] at this
  by_cases h : at_ ∈ ls
  · exact this.mp h h
  · exact h (this.mpr h)
theorem set_rf {n : Int} {ls ws ps : List Int} {a : Nat} {x y : Int} (f : RF n ls ws ps) (h : ps[a]? = some x) (hy : 1 ≤ y ∧ y ≤ 999) (hne : y ≠ x) : RF n ls ws (ps.take a ++ [y] ++ ps.drop (a + 1)) ∧ ps ≠ ps.take a ++ [y] ++ ps.drop (a + 1) := by
  have hl := (List.getElem?_eq_some_iff.mp h).1
  have hg : (ps.take a ++ [y] ++ ps.drop (a + 1))[a]? = some y := by
    rw [List.append_assoc, List.getElem?_append_right (by rw [List.length_take]; omega), List.length_take, Nat.min_eq_left (by omega), Nat.sub_self]
    rfl
  refine ⟨⟨f.n2, f.n12, f.ls, f.ws, ?_, ?_⟩, fun e => ?_⟩
  · have := f.pl
    simp only [List.length_append, List.length_take, List.length_drop, List.length_cons, List.length_nil]
    omega
  · intro p hp
    rcases List.mem_append.mp hp with hp | hp
    · rcases List.mem_append.mp hp with hp | hp
      · exact f.ps p (List.mem_of_mem_take hp)
      · rw [List.mem_singleton.mp hp]; exact hy
    · exact f.ps p (List.mem_of_mem_drop hp)
  · rw [← e, h] at hg
    exact hne (by injection hg with hg; exact hg.symm)
theorem ix_tint {v : List Int} {j : Nat} {a : Int} (h : v[j]? = some a) : (ixAt (iW v).length (j : Int)).bind (fun k => (iW v)[k]?) = some (.int a) := by
  have hl : j < v.length := (List.getElem?_eq_some_iff.mp h).1
  have : ixAt (iW v).length (j : Int) = some j := ixN_ok (by unfold iW; rw [List.length_map]; exact hl)
  rw [this, Option.bind_some]
  unfold iW
  rw [List.getElem?_map, h]
  rfl
theorem law_others_wp {k p : Nat} {n : Int} {ls ws ps : List Int} {S : Sto} (hp : PoolAt S p) (f : RF n ls ws ps) : Wp (callM P (k + 2) "_law_others" [.loc p, .p (factsW n ls ws ps)]) (fun u S' => ∃ os, u = .p (.lst os) ∧ (∀ w ∈ os, Oth n ls ws ps w) ∧ os.length ≤ 4 ∧ PoolTo S p S') noE S := by
  refine w_call fn__law_others rfl ?_
  simp only [b__law_others, factsW]
  have hpl := hp.len
  have n2 := f.n2
  have n12 := f.n12
  have n0 : 0 < n := by omega
  try simp -implicitDefEqProofs only [↓w_bind, ↓w_inS, ↓w_inSb, ↓w_inSs, ↓w_cons, ↓wp_nil, ↓wE_var, ↓wE_cst, ↓wE_glob, ↓wE_pr, ↓w_kAnd, ↓w_kOr, ↓wE_and, ↓wE_or, ↓wE_not, ↓w_kNot, ↓w_kIte, ↓wE_ite, ↓wE_chain, ↓w_kCh1, ↓w_kCh2, ↓w_kCh3, ↓wE_chain3, ↓w_kDh1, ↓w_kDh2, ↓w_kDh3, ↓w_kDh4, ↓w_kDh5, ↓wT_chain3, ↓wE_comp, ↓w_kComp0, ↓w_kComp2f, ↓w_kComp2t, ↓wE_call, ↓wE_meth, ↓w_kMe1, ↓w_kMe2, ↓wE_mcall, ↓w_kMc0, ↓w_kMc1, ↓wE_new, ↓wE_fld, ↓wEs_nil, ↓wEs_cons, ↓w_kEs1, ↓w_kEs2, ↓wT_and, ↓wT_or, ↓wT_not, ↓w_kTA, ↓w_kTO, ↓w_kTN, ↓wT_var, ↓wT_cst, ↓wT_pr, ↓wT_chain, ↓wT_call, ↓wT_meth, ↓wT_mcall, ↓wT_fld, ↓wC_nil, ↓wC_cons, ↓w_kC, ↓w_kCf2, ↓w_kCf3, ↓wS_expr, ↓wS_asg, ↓wS_asT, ↓w_kAsT, ↓wS_par, ↓w_kPar, ↓wS_setix, ↓w_kSx1, ↓w_kSx2, ↓w_kSx3, ↓wS_setix2, ↓w_kSy1, ↓w_kSy2, ↓w_kSy3, ↓wS_setf, ↓w_kSf1, ↓w_kSf2, ↓wS_aug, ↓w_kAu, ↓wS_ret, ↓wS_retN, ↓wS_ifs, ↓w_kIf, ↓wS_for, ↓w_kFor, ↓wS_whl, ↓wS_brk, ↓wS_cnt, ↓wS_pass, ↓wS_raise, ↓wS_thru, ↓w_itN, ↓w_itP, ↓w_truU, ↓w_truL, ↓w_p1, ↓w_p1l, ↓w_p2, ↓w_p2l, ↓w_p2r, ↓w_eq, ↓w_ne, ↓w_eql, ↓w_nel, ↓w_tup, ↓w_lst, ↓w_lstT, ↓w_frUs0, ↓w_frUs1, ↓w_frUsL, wp_ok, wp_okP, wp_bad, wp_ite, wp_nxt, wp_rdp, wp_frp, wp_some, wp_finp, wp_newU, wp_rdl', wp_setix, wp_setf, wp_updL, wp_guard, kB_ap, kM_ap, kS_nx, kS_rt, kS_bk, kS_ct, kS_ex, kX_ap, kF_rt, kF_nx, kF_ex, oW_s, oW_n, oW_i, prE, bindA, Dfl.w, kCall, kMc2, kNew, truW, tagW, subT, addW, subW, modW, cmpW, ixW, lenW, seqW, isNon, boolsW, MO.frz, fldU, augM, augW, oB, oI, setsL, slW, wp_optI, itemsW, mulW_l', mulW_r', wp_eqI, bnd_nm, bnd_2, bnd_3, bnd_4, wipeL, ix20, ix21, ix30, ix31, ix32, List.any_cons, List.any_nil, String.reduceBEq, Bool.or_false, Bool.or_true, Bool.false_or, Bool.true_or, Bool.and_false, Bool.and_true, Bool.false_and, Bool.true_and, Bool.not_true, Bool.not_false, beq_self_eq_true, Int.reduceLT, Int.reduceLE, Int.reduceEq, Nat.reduceLT, Nat.reduceLeDiff, Nat.reduceEqDiff, decide_true, decide_false, decide_eq_true_eq, and_self, and_true, true_and, List.map_cons, List.map_nil, List.cons_append, List.nil_append, List.append_nil, List.replicate_succ, List.replicate_zero, List.length_cons, List.length_nil, List.getElem?_cons_zero, List.getElem?_cons_succ, List.set_cons_zero, List.set_cons_succ, Option.bind_some, Option.bind_none, Option.map_some, Option.map_none, Nat.reduceSub, Nat.reduceAdd, Nat.sub_self, Nat.add_zero, Nat.zero_add, ite_true, ite_false, if_true, if_false, Bool.false_eq_true, reduceCtorEq, List.take_length, rcv_join, rcv_split, rcv_find, rcv_index, rcv_indexL, rcv_count, rcv_append, rcv_extend, eqF_pp, bnd_4]
  refine (law_take_wp hp n0 (by omega)).mono (fun u S1 ⟨t, e, t0, t1, p1⟩ => ?_) fun _ _ _ z => z.elim
  subst e
  have l1 := p1.len
  obtain ⟨a, rfl⟩ : ∃ a : Nat, t = (a : Int) := ⟨t.toNat, by omega⟩
  have ha : a < ps.length := by have := f.pl; omega
  obtain ⟨x, hx⟩ : ∃ x, ps[a]? = some x := ⟨_, List.getElem?_eq_getElem ha⟩
  have hxr := f.ps x (List.mem_of_getElem? hx)
  have hl : line62 n = true := by simp [line62]; omega
  have hr : (rng 0 n).length ≤ bigLine := by simp [rng, bigLine]; omega
  have gx := ix_tint hx
  have c1 : cutL (iW ps) none (some (a : Int)) = iW (ps.take a) := by
    rw [cut_to]; simp [iW, List.map_take]
  have c2 : cutL (iW ps) (some ((a : Int) + 1)) none = iW (ps.drop (a + 1)) := by
    rw [show (a : Int) + 1 = ((a + 1 : Nat) : Int) by omega, cut_from]; simp [iW, List.map_drop]
  obtain ⟨rf3, ne3⟩ := set_rf f hx (y := x % 999 + 1) (by omega) (by omega)
  have o1 : Oth n ls ws ps (.tup [.int n, .tup (iW (flipI n a ls)), .tup (iW ws), .tup (iW ps)]) := ⟨_, _, _, _, rfl, ⟨n2, n12, flip_asc n0, f.ws, f.pl, f.ps⟩, fun z => flip_ne t0 t1 z.2.2.1⟩
  have o2 : Oth n ls ws ps (.tup [.int n, .tup (iW ls), .tup (iW (flipI n a ws)), .tup (iW ps)]) := ⟨_, _, _, _, rfl, ⟨n2, n12, f.ls, flip_asc n0, f.pl, f.ps⟩, fun z => flip_ne t0 t1 z.2.2.2⟩
  have o3 : Oth n ls ws ps (.tup [.int n, .tup (iW ls), .tup (iW ws), .tup (iW (ps.take a ++ [x % 999 + 1] ++ ps.drop (a + 1)))]) := ⟨_, _, _, _, rfl, rf3, fun z => ne3 z.2.1⟩
  have pse : iW (ps.take a) ++ [W.int (x % 999 + 1)] ++ iW (ps.drop (a + 1)) = iW (ps.take a ++ [x % 999 + 1] ++ ps.drop (a + 1)) := by simp [iW]
  have ps1 : iW ps ++ [W.int 1] = iW (ps ++ [1]) := by simp [iW]
  have ppl : ps.length ≤ 12 := by have := f.pl; omega
  have g1 : (iW (ps.take a)).length + 1 ≤ bigLine := by unfold iW; rw [List.length_map, List.length_take]; simp only [bigLine]; omega
  have q2 : 2 ≤ bigLine := by decide
  have q3 : 3 ≤ bigLine := by decide
  have q4 : 4 ≤ bigLine := by decide
  try simp -implicitDefEqProofs only [↓w_bind, ↓w_inS, ↓w_inSb, ↓w_inSs, ↓w_cons, ↓wp_nil, ↓wE_var, ↓wE_cst, ↓wE_glob, ↓wE_pr, ↓w_kAnd, ↓w_kOr, ↓wE_and, ↓wE_or, ↓wE_not, ↓w_kNot, ↓w_kIte, ↓wE_ite, ↓wE_chain, ↓w_kCh1, ↓w_kCh2, ↓w_kCh3, ↓wE_chain3, ↓w_kDh1, ↓w_kDh2, ↓w_kDh3, ↓w_kDh4, ↓w_kDh5, ↓wT_chain3, ↓wE_comp, ↓w_kComp0, ↓w_kComp2f, ↓w_kComp2t, ↓wE_call, ↓wE_meth, ↓w_kMe1, ↓w_kMe2, ↓wE_mcall, ↓w_kMc0, ↓w_kMc1, ↓wE_new, ↓wE_fld, ↓wEs_nil, ↓wEs_cons, ↓w_kEs1, ↓w_kEs2, ↓wT_and, ↓wT_or, ↓wT_not, ↓w_kTA, ↓w_kTO, ↓w_kTN, ↓wT_var, ↓wT_cst, ↓wT_pr, ↓wT_chain, ↓wT_call, ↓wT_meth, ↓wT_mcall, ↓wT_fld, ↓wC_nil, ↓wC_cons, ↓w_kC, ↓w_kCf2, ↓w_kCf3, ↓wS_expr, ↓wS_asg, ↓wS_asT, ↓w_kAsT, ↓wS_par, ↓w_kPar, ↓wS_setix, ↓w_kSx1, ↓w_kSx2, ↓w_kSx3, ↓wS_setix2, ↓w_kSy1, ↓w_kSy2, ↓w_kSy3, ↓wS_setf, ↓w_kSf1, ↓w_kSf2, ↓wS_aug, ↓w_kAu, ↓wS_ret, ↓wS_retN, ↓wS_ifs, ↓w_kIf, ↓wS_for, ↓w_kFor, ↓wS_whl, ↓wS_brk, ↓wS_cnt, ↓wS_pass, ↓wS_raise, ↓wS_thru, ↓w_itN, ↓w_itP, ↓w_truU, ↓w_truL, ↓w_p1, ↓w_p1l, ↓w_p2, ↓w_p2l, ↓w_p2r, ↓w_eq, ↓w_ne, ↓w_eql, ↓w_nel, ↓w_tup, ↓w_lst, ↓w_lstT, ↓w_frUs0, ↓w_frUs1, ↓w_frUsL, wp_ok, wp_okP, wp_bad, wp_ite, wp_nxt, wp_rdp, wp_frp, wp_some, wp_finp, wp_newU, wp_rdl', wp_setix, wp_setf, wp_updL, wp_guard, kB_ap, kM_ap, kS_nx, kS_rt, kS_bk, kS_ct, kS_ex, kX_ap, kF_rt, kF_nx, kF_ex, oW_s, oW_n, oW_i, prE, bindA, Dfl.w, kCall, kMc2, kNew, truW, tagW, subT, addW, subW, modW, cmpW, ixW, lenW, seqW, isNon, boolsW, MO.frz, fldU, augM, augW, oB, oI, setsL, slW, wp_optI, itemsW, mulW_l', mulW_r', wp_eqI, bnd_nm, bnd_2, bnd_3, bnd_4, wipeL, ix20, ix21, ix30, ix31, ix32, List.any_cons, List.any_nil, String.reduceBEq, Bool.or_false, Bool.or_true, Bool.false_or, Bool.true_or, Bool.and_false, Bool.and_true, Bool.false_and, Bool.true_and, Bool.not_true, Bool.not_false, beq_self_eq_true, Int.reduceLT, Int.reduceLE, Int.reduceEq, Nat.reduceLT, Nat.reduceLeDiff, Nat.reduceEqDiff, decide_true, decide_false, decide_eq_true_eq, and_self, and_true, true_and, List.map_cons, List.map_nil, List.cons_append, List.nil_append, List.append_nil, List.replicate_succ, List.replicate_zero, List.length_cons, List.length_nil, List.getElem?_cons_zero, List.getElem?_cons_succ, List.set_cons_zero, List.set_cons_succ, Option.bind_some, Option.bind_none, Option.map_some, Option.map_none, Nat.reduceSub, Nat.reduceAdd, Nat.sub_self, Nat.add_zero, Nat.zero_add, ite_true, ite_false, if_true, if_false, Bool.false_eq_true, reduceCtorEq, List.take_length, rcv_join, rcv_split, rcv_find, rcv_index, rcv_indexL, rcv_count, rcv_append, rcv_extend, eqF_pp, hl]
  refine ⟨hr, ?_⟩
  rw [wp_compP (p := flipW a ls) fun w hw => ?_]
  · rw [flip_all]
    try simp -implicitDefEqProofs only [↓w_bind, ↓w_inS, ↓w_inSb, ↓w_inSs, ↓w_cons, ↓wp_nil, ↓wE_var, ↓wE_cst, ↓wE_glob, ↓wE_pr, ↓w_kAnd, ↓w_kOr, ↓wE_and, ↓wE_or, ↓wE_not, ↓w_kNot, ↓w_kIte, ↓wE_ite, ↓wE_chain, ↓w_kCh1, ↓w_kCh2, ↓w_kCh3, ↓wE_chain3, ↓w_kDh1, ↓w_kDh2, ↓w_kDh3, ↓w_kDh4, ↓w_kDh5, ↓wT_chain3, ↓wE_comp, ↓w_kComp0, ↓w_kComp2f, ↓w_kComp2t, ↓wE_call, ↓wE_meth, ↓w_kMe1, ↓w_kMe2, ↓wE_mcall, ↓w_kMc0, ↓w_kMc1, ↓wE_new, ↓wE_fld, ↓wEs_nil, ↓wEs_cons, ↓w_kEs1, ↓w_kEs2, ↓wT_and, ↓wT_or, ↓wT_not, ↓w_kTA, ↓w_kTO, ↓w_kTN, ↓wT_var, ↓wT_cst, ↓wT_pr, ↓wT_chain, ↓wT_call, ↓wT_meth, ↓wT_mcall, ↓wT_fld, ↓wC_nil, ↓wC_cons, ↓w_kC, ↓w_kCf2, ↓w_kCf3, ↓wS_expr, ↓wS_asg, ↓wS_asT, ↓w_kAsT, ↓wS_par, ↓w_kPar, ↓wS_setix, ↓w_kSx1, ↓w_kSx2, ↓w_kSx3, ↓wS_setix2, ↓w_kSy1, ↓w_kSy2, ↓w_kSy3, ↓wS_setf, ↓w_kSf1, ↓w_kSf2, ↓wS_aug, ↓w_kAu, ↓wS_ret, ↓wS_retN, ↓wS_ifs, ↓w_kIf, ↓wS_for, ↓w_kFor, ↓wS_whl, ↓wS_brk, ↓wS_cnt, ↓wS_pass, ↓wS_raise, ↓wS_thru, ↓w_itN, ↓w_itP, ↓w_truU, ↓w_truL, ↓w_p1, ↓w_p1l, ↓w_p2, ↓w_p2l, ↓w_p2r, ↓w_eq, ↓w_ne, ↓w_eql, ↓w_nel, ↓w_tup, ↓w_lst, ↓w_lstT, ↓w_frUs0, ↓w_frUs1, ↓w_frUsL, wp_ok, wp_okP, wp_bad, wp_ite, wp_nxt, wp_rdp, wp_frp, wp_some, wp_finp, wp_newU, wp_rdl', wp_setix, wp_setf, wp_updL, wp_guard, kB_ap, kM_ap, kS_nx, kS_rt, kS_bk, kS_ct, kS_ex, kX_ap, kF_rt, kF_nx, kF_ex, oW_s, oW_n, oW_i, prE, bindA, Dfl.w, kCall, kMc2, kNew, truW, tagW, subT, addW, subW, modW, cmpW, ixW, lenW, seqW, isNon, boolsW, MO.frz, fldU, augM, augW, oB, oI, setsL, slW, wp_optI, itemsW, mulW_l', mulW_r', wp_eqI, bnd_nm, bnd_2, bnd_3, bnd_4, wipeL, ix20, ix21, ix30, ix31, ix32, List.any_cons, List.any_nil, String.reduceBEq, Bool.or_false, Bool.or_true, Bool.false_or, Bool.true_or, Bool.and_false, Bool.and_true, Bool.false_and, Bool.true_and, Bool.not_true, Bool.not_false, beq_self_eq_true, Int.reduceLT, Int.reduceLE, Int.reduceEq, Nat.reduceLT, Nat.reduceLeDiff, Nat.reduceEqDiff, decide_true, decide_false, decide_eq_true_eq, and_self, and_true, true_and, List.map_cons, List.map_nil, List.cons_append, List.nil_append, List.append_nil, List.replicate_succ, List.replicate_zero, List.length_cons, List.length_nil, List.getElem?_cons_zero, List.getElem?_cons_succ, List.set_cons_zero, List.set_cons_succ, Option.bind_some, Option.bind_none, Option.map_some, Option.map_none, Nat.reduceSub, Nat.reduceAdd, Nat.sub_self, Nat.add_zero, Nat.zero_add, ite_true, ite_false, if_true, if_false, Bool.false_eq_true, reduceCtorEq, List.take_length, rcv_join, rcv_split, rcv_find, rcv_index, rcv_indexL, rcv_count, rcv_append, rcv_extend, eqF_pp, hl, app_get]
    refine ⟨hr, ?_⟩
    rw [wp_compP (p := flipW a ws) fun w hw => ?_]
    · rw [flip_all]
      have r999 : (0 : Int) < 999 := by decide
      try simp -implicitDefEqProofs only [↓w_bind, ↓w_inS, ↓w_inSb, ↓w_inSs, ↓w_cons, ↓wp_nil, ↓wE_var, ↓wE_cst, ↓wE_glob, ↓wE_pr, ↓w_kAnd, ↓w_kOr, ↓wE_and, ↓wE_or, ↓wE_not, ↓w_kNot, ↓w_kIte, ↓wE_ite, ↓wE_chain, ↓w_kCh1, ↓w_kCh2, ↓w_kCh3, ↓wE_chain3, ↓w_kDh1, ↓w_kDh2, ↓w_kDh3, ↓w_kDh4, ↓w_kDh5, ↓wT_chain3, ↓wE_comp, ↓w_kComp0, ↓w_kComp2f, ↓w_kComp2t, ↓wE_call, ↓wE_meth, ↓w_kMe1, ↓w_kMe2, ↓wE_mcall, ↓w_kMc0, ↓w_kMc1, ↓wE_new, ↓wE_fld, ↓wEs_nil, ↓wEs_cons, ↓w_kEs1, ↓w_kEs2, ↓wT_and, ↓wT_or, ↓wT_not, ↓w_kTA, ↓w_kTO, ↓w_kTN, ↓wT_var, ↓wT_cst, ↓wT_pr, ↓wT_chain, ↓wT_call, ↓wT_meth, ↓wT_mcall, ↓wT_fld, ↓wC_nil, ↓wC_cons, ↓w_kC, ↓w_kCf2, ↓w_kCf3, ↓wS_expr, ↓wS_asg, ↓wS_asT, ↓w_kAsT, ↓wS_par, ↓w_kPar, ↓wS_setix, ↓w_kSx1, ↓w_kSx2, ↓w_kSx3, ↓wS_setix2, ↓w_kSy1, ↓w_kSy2, ↓w_kSy3, ↓wS_setf, ↓w_kSf1, ↓w_kSf2, ↓wS_aug, ↓w_kAu, ↓wS_ret, ↓wS_retN, ↓wS_ifs, ↓w_kIf, ↓wS_for, ↓w_kFor, ↓wS_whl, ↓wS_brk, ↓wS_cnt, ↓wS_pass, ↓wS_raise, ↓wS_thru, ↓w_itN, ↓w_itP, ↓w_truU, ↓w_truL, ↓w_p1, ↓w_p1l, ↓w_p2, ↓w_p2l, ↓w_p2r, ↓w_eq, ↓w_ne, ↓w_eql, ↓w_nel, ↓w_tup, ↓w_lst, ↓w_lstT, ↓w_frUs0, ↓w_frUs1, ↓w_frUsL, wp_ok, wp_okP, wp_bad, wp_ite, wp_nxt, wp_rdp, wp_frp, wp_some, wp_finp, wp_newU, wp_rdl', wp_setix, wp_setf, wp_updL, wp_guard, kB_ap, kM_ap, kS_nx, kS_rt, kS_bk, kS_ct, kS_ex, kX_ap, kF_rt, kF_nx, kF_ex, oW_s, oW_n, oW_i, prE, bindA, Dfl.w, kCall, kMc2, kNew, truW, tagW, subT, addW, subW, modW, cmpW, ixW, lenW, seqW, isNon, boolsW, MO.frz, fldU, augM, augW, oB, oI, setsL, slW, wp_optI, itemsW, mulW_l', mulW_r', wp_eqI, bnd_nm, bnd_2, bnd_3, bnd_4, wipeL, ix20, ix21, ix30, ix31, ix32, List.any_cons, List.any_nil, String.reduceBEq, Bool.or_false, Bool.or_true, Bool.false_or, Bool.true_or, Bool.and_false, Bool.and_true, Bool.false_and, Bool.true_and, Bool.not_true, Bool.not_false, beq_self_eq_true, Int.reduceLT, Int.reduceLE, Int.reduceEq, Nat.reduceLT, Nat.reduceLeDiff, Nat.reduceEqDiff, decide_true, decide_false, decide_eq_true_eq, and_self, and_true, true_and, List.map_cons, List.map_nil, List.cons_append, List.nil_append, List.append_nil, List.replicate_succ, List.replicate_zero, List.length_cons, List.length_nil, List.getElem?_cons_zero, List.getElem?_cons_succ, List.set_cons_zero, List.set_cons_succ, Option.bind_some, Option.bind_none, Option.map_some, Option.map_none, Nat.reduceSub, Nat.reduceAdd, Nat.sub_self, Nat.add_zero, Nat.zero_add, ite_true, ite_false, if_true, if_false, Bool.false_eq_true, reduceCtorEq, List.take_length, rcv_join, rcv_split, rcv_find, rcv_index, rcv_indexL, rcv_count, rcv_append, rcv_extend, eqF_pp, app_get, app_set, q2, q3, gx, c1, c2, r999]
      have il : ∀ is : List Int, (iW is).length = is.length := fun is => by simp [iW]
      rw [if_pos (by rw [il, List.length_take]; simp only [bigLine]; omega), if_pos (by rw [List.length_append, il, il, List.length_take, List.length_drop]; simp only [bigLine, List.length_cons, List.length_nil]; omega), pse]
      have fin : ∀ os : List W, (∀ w ∈ os, Oth n ls ws ps w) → os.length ≤ 4 → Wp (finU false (List.length S) (U.loc (List.length S1))) (fun u S' => ∃ os, u = U.p (W.lst os) ∧ (∀ (w : W), w ∈ os → Oth n ls ws ps w) ∧ os.length ≤ 4 ∧ PoolTo S p S') noE (S1 ++ [some (MO.lst os)]) := by
        intro os h1 h2
        rw [wp_finl (by rw [l1]; exact Nat.le_refl _) app_get]
        try simp -implicitDefEqProofs only [↓w_bind, ↓w_inS, ↓w_inSb, ↓w_inSs, ↓w_cons, ↓wp_nil, ↓wE_var, ↓wE_cst, ↓wE_glob, ↓wE_pr, ↓w_kAnd, ↓w_kOr, ↓wE_and, ↓wE_or, ↓wE_not, ↓w_kNot, ↓w_kIte, ↓wE_ite, ↓wE_chain, ↓w_kCh1, ↓w_kCh2, ↓w_kCh3, ↓wE_chain3, ↓w_kDh1, ↓w_kDh2, ↓w_kDh3, ↓w_kDh4, ↓w_kDh5, ↓wT_chain3, ↓wE_comp, ↓w_kComp0, ↓w_kComp2f, ↓w_kComp2t, ↓wE_call, ↓wE_meth, ↓w_kMe1, ↓w_kMe2, ↓wE_mcall, ↓w_kMc0, ↓w_kMc1, ↓wE_new, ↓wE_fld, ↓wEs_nil, ↓wEs_cons, ↓w_kEs1, ↓w_kEs2, ↓wT_and, ↓wT_or, ↓wT_not, ↓w_kTA, ↓w_kTO, ↓w_kTN, ↓wT_var, ↓wT_cst, ↓wT_pr, ↓wT_chain, ↓wT_call, ↓wT_meth, ↓wT_mcall, ↓wT_fld, ↓wC_nil, ↓wC_cons, ↓w_kC, ↓w_kCf2, ↓w_kCf3, ↓wS_expr, ↓wS_asg, ↓wS_asT, ↓w_kAsT, ↓wS_par, ↓w_kPar, ↓wS_setix, ↓w_kSx1, ↓w_kSx2, ↓w_kSx3, ↓wS_setix2, ↓w_kSy1, ↓w_kSy2, ↓w_kSy3, ↓wS_setf, ↓w_kSf1, ↓w_kSf2, ↓wS_aug, ↓w_kAu, ↓wS_ret, ↓wS_retN, ↓wS_ifs, ↓w_kIf, ↓wS_for, ↓w_kFor, ↓wS_whl, ↓wS_brk, ↓wS_cnt, ↓wS_pass, ↓wS_raise, ↓wS_thru, ↓w_itN, ↓w_itP, ↓w_truU, ↓w_truL, ↓w_p1, ↓w_p1l, ↓w_p2, ↓w_p2l, ↓w_p2r, ↓w_eq, ↓w_ne, ↓w_eql, ↓w_nel, ↓w_tup, ↓w_lst, ↓w_lstT, ↓w_frUs0, ↓w_frUs1, ↓w_frUsL, wp_ok, wp_okP, wp_bad, wp_ite, wp_nxt, wp_rdp, wp_frp, wp_some, wp_finp, wp_newU, wp_rdl', wp_setix, wp_setf, wp_updL, wp_guard, kB_ap, kM_ap, kS_nx, kS_rt, kS_bk, kS_ct, kS_ex, kX_ap, kF_rt, kF_nx, kF_ex, oW_s, oW_n, oW_i, prE, bindA, Dfl.w, kCall, kMc2, kNew, truW, tagW, subT, addW, subW, modW, cmpW, ixW, lenW, seqW, isNon, boolsW, MO.frz, fldU, augM, augW, oB, oI, setsL, slW, wp_optI, itemsW, mulW_l', mulW_r', wp_eqI, bnd_nm, bnd_2, bnd_3, bnd_4, wipeL, ix20, ix21, ix30, ix31, ix32, List.any_cons, List.any_nil, String.reduceBEq, Bool.or_false, Bool.or_true, Bool.false_or, Bool.true_or, Bool.and_false, Bool.and_true, Bool.false_and, Bool.true_and, Bool.not_true, Bool.not_false, beq_self_eq_true, Int.reduceLT, Int.reduceLE, Int.reduceEq, Nat.reduceLT, Nat.reduceLeDiff, Nat.reduceEqDiff, decide_true, decide_false, decide_eq_true_eq, and_self, and_true, true_and, List.map_cons, List.map_nil, List.cons_append, List.nil_append, List.append_nil, List.replicate_succ, List.replicate_zero, List.length_cons, List.length_nil, List.getElem?_cons_zero, List.getElem?_cons_succ, List.set_cons_zero, List.set_cons_succ, Option.bind_some, Option.bind_none, Option.map_some, Option.map_none, Nat.reduceSub, Nat.reduceAdd, Nat.sub_self, Nat.add_zero, Nat.zero_add, ite_true, ite_false, if_true, if_false, Bool.false_eq_true, reduceCtorEq, List.take_length, rcv_join, rcv_split, rcv_find, rcv_index, rcv_indexL, rcv_count, rcv_append, rcv_extend, eqF_pp, MO.frz]
        exact ⟨os, rfl, h1, h2, by rw [← l1, app_take]; exact p1⟩
      by_cases h12 : n < 12
      · rw [if_pos h12, if_pos (by rw [il]; simp only [bigLine]; omega), if_pos q4, ps1]
        have o4 : Oth n ls ws ps (.tup [.int (n + 1), .tup (iW ls), .tup (iW ws), .tup (iW (ps ++ [1]))]) := by
          have up : ∀ {l : List Int} {lo hi hi' : Int}, hi ≤ hi' → Asc lo hi l → Asc lo hi' l := by
            intro l
            induction l with
            | nil => intro _ _ _ _ _; trivial
            | cons y l ih =>
              intro lo hi hi' h ⟨a1, a2, a3⟩
              exact ⟨a1, by omega, ih h a3⟩
          refine ⟨_, _, _, _, rfl, ⟨by omega, by omega, up (by omega) f.ls, up (by omega) f.ws, ?_, ?_⟩, fun z => by omega⟩
          · have := f.pl
            rw [List.length_append, List.length_cons, List.length_nil]
            omega
          · intro q hq
            rcases List.mem_append.mp hq with hq | hq
            · exact f.ps q hq
            · rw [List.mem_singleton.mp hq]; omega
        refine fin _ (fun w hw => ?_) (by simp)
        simp only [List.mem_cons, List.not_mem_nil, or_false] at hw
        rcases hw with rfl | rfl | rfl | rfl
        · exact o1
        · exact o2
        · exact o3
        · exact o4
      · rw [if_neg h12]
        refine fin _ (fun w hw => ?_) (by simp)
        simp only [List.mem_cons, List.not_mem_nil, or_false] at hw
        rcases hw with rfl | rfl | rfl
        · exact o1
        · exact o2
        · exact o3
    · rw [rng_rI'] at hw
      obtain ⟨x, hx, rfl⟩ := List.mem_map.mp hw
      rw [w_compF rfl]
      cases hA : decide (x ∈ ws) <;> cases hB : (x == (a : Int)) <;> (try simp -implicitDefEqProofs only [↓w_bind, ↓w_inS, ↓w_inSb, ↓w_inSs, ↓w_cons, ↓wp_nil, ↓wE_var, ↓wE_cst, ↓wE_glob, ↓wE_pr, ↓w_kAnd, ↓w_kOr, ↓wE_and, ↓wE_or, ↓wE_not, ↓w_kNot, ↓w_kIte, ↓wE_ite, ↓wE_chain, ↓w_kCh1, ↓w_kCh2, ↓w_kCh3, ↓wE_chain3, ↓w_kDh1, ↓w_kDh2, ↓w_kDh3, ↓w_kDh4, ↓w_kDh5, ↓wT_chain3, ↓wE_comp, ↓w_kComp0, ↓w_kComp2f, ↓w_kComp2t, ↓wE_call, ↓wE_meth, ↓w_kMe1, ↓w_kMe2, ↓wE_mcall, ↓w_kMc0, ↓w_kMc1, ↓wE_new, ↓wE_fld, ↓wEs_nil, ↓wEs_cons, ↓w_kEs1, ↓w_kEs2, ↓wT_and, ↓wT_or, ↓wT_not, ↓w_kTA, ↓w_kTO, ↓w_kTN, ↓wT_var, ↓wT_cst, ↓wT_pr, ↓wT_chain, ↓wT_call, ↓wT_meth, ↓wT_mcall, ↓wT_fld, ↓wC_nil, ↓wC_cons, ↓w_kC, ↓w_kCf2, ↓w_kCf3, ↓wS_expr, ↓wS_asg, ↓wS_asT, ↓w_kAsT, ↓wS_par, ↓w_kPar, ↓wS_setix, ↓w_kSx1, ↓w_kSx2, ↓w_kSx3, ↓wS_setix2, ↓w_kSy1, ↓w_kSy2, ↓w_kSy3, ↓wS_setf, ↓w_kSf1, ↓w_kSf2, ↓wS_aug, ↓w_kAu, ↓wS_ret, ↓wS_retN, ↓wS_ifs, ↓w_kIf, ↓wS_for, ↓w_kFor, ↓wS_whl, ↓wS_brk, ↓wS_cnt, ↓wS_pass, ↓wS_raise, ↓wS_thru, ↓w_itN, ↓w_itP, ↓w_truU, ↓w_truL, ↓w_p1, ↓w_p1l, ↓w_p2, ↓w_p2l, ↓w_p2r, ↓w_eq, ↓w_ne, ↓w_eql, ↓w_nel, ↓w_tup, ↓w_lst, ↓w_lstT, ↓w_frUs0, ↓w_frUs1, ↓w_frUsL, wp_ok, wp_okP, wp_bad, wp_ite, wp_nxt, wp_rdp, wp_frp, wp_some, wp_finp, wp_newU, wp_rdl', wp_setix, wp_setf, wp_updL, wp_guard, kB_ap, kM_ap, kS_nx, kS_rt, kS_bk, kS_ct, kS_ex, kX_ap, kF_rt, kF_nx, kF_ex, oW_s, oW_n, oW_i, prE, bindA, Dfl.w, kCall, kMc2, kNew, truW, tagW, subT, addW, subW, modW, cmpW, ixW, lenW, seqW, isNon, boolsW, MO.frz, fldU, augM, augW, oB, oI, setsL, slW, wp_optI, itemsW, mulW_l', mulW_r', wp_eqI, bnd_nm, bnd_2, bnd_3, bnd_4, wipeL, ix20, ix21, ix30, ix31, ix32, List.any_cons, List.any_nil, String.reduceBEq, Bool.or_false, Bool.or_true, Bool.false_or, Bool.true_or, Bool.and_false, Bool.and_true, Bool.false_and, Bool.true_and, Bool.not_true, Bool.not_false, beq_self_eq_true, Int.reduceLT, Int.reduceLE, Int.reduceEq, Nat.reduceLT, Nat.reduceLeDiff, Nat.reduceEqDiff, decide_true, decide_false, decide_eq_true_eq, and_self, and_true, true_and, List.map_cons, List.map_nil, List.cons_append, List.nil_append, List.append_nil, List.replicate_succ, List.replicate_zero, List.length_cons, List.length_nil, List.getElem?_cons_zero, List.getElem?_cons_succ, List.set_cons_zero, List.set_cons_succ, Option.bind_some, Option.bind_none, Option.map_some, Option.map_none, Nat.reduceSub, Nat.reduceAdd, Nat.sub_self, Nat.add_zero, Nat.zero_add, ite_true, ite_false, if_true, if_false, Bool.false_eq_true, reduceCtorEq, List.take_length, rcv_join, rcv_split, rcv_find, rcv_index, rcv_indexL, rcv_count, rcv_append, rcv_extend, eqF_pp, inW_ints, wp_eqI, wp_eqB, hA, hB, flipW]; try simp)
  · rw [rng_rI'] at hw
    obtain ⟨x, hx, rfl⟩ := List.mem_map.mp hw
    rw [w_compF rfl]
    cases hA : decide (x ∈ ls) <;> cases hB : (x == (a : Int)) <;> (try simp -implicitDefEqProofs only [↓w_bind, ↓w_inS, ↓w_inSb, ↓w_inSs, ↓w_cons, ↓wp_nil, ↓wE_var, ↓wE_cst, ↓wE_glob, ↓wE_pr, ↓w_kAnd, ↓w_kOr, ↓wE_and, ↓wE_or, ↓wE_not, ↓w_kNot, ↓w_kIte, ↓wE_ite, ↓wE_chain, ↓w_kCh1, ↓w_kCh2, ↓w_kCh3, ↓wE_chain3, ↓w_kDh1, ↓w_kDh2, ↓w_kDh3, ↓w_kDh4, ↓w_kDh5, ↓wT_chain3, ↓wE_comp, ↓w_kComp0, ↓w_kComp2f, ↓w_kComp2t, ↓wE_call, ↓wE_meth, ↓w_kMe1, ↓w_kMe2, ↓wE_mcall, ↓w_kMc0, ↓w_kMc1, ↓wE_new, ↓wE_fld, ↓wEs_nil, ↓wEs_cons, ↓w_kEs1, ↓w_kEs2, ↓wT_and, ↓wT_or, ↓wT_not, ↓w_kTA, ↓w_kTO, ↓w_kTN, ↓wT_var, ↓wT_cst, ↓wT_pr, ↓wT_chain, ↓wT_call, ↓wT_meth, ↓wT_mcall, ↓wT_fld, ↓wC_nil, ↓wC_cons, ↓w_kC, ↓w_kCf2, ↓w_kCf3, ↓wS_expr, ↓wS_asg, ↓wS_asT, ↓w_kAsT, ↓wS_par, ↓w_kPar, ↓wS_setix, ↓w_kSx1, ↓w_kSx2, ↓w_kSx3, ↓wS_setix2, ↓w_kSy1, ↓w_kSy2, ↓w_kSy3, ↓wS_setf, ↓w_kSf1, ↓w_kSf2, ↓wS_aug, ↓w_kAu, ↓wS_ret, ↓wS_retN, ↓wS_ifs, ↓w_kIf, ↓wS_for, ↓w_kFor, ↓wS_whl, ↓wS_brk, ↓wS_cnt, ↓wS_pass, ↓wS_raise, ↓wS_thru, ↓w_itN, ↓w_itP, ↓w_truU, ↓w_truL, ↓w_p1, ↓w_p1l, ↓w_p2, ↓w_p2l, ↓w_p2r, ↓w_eq, ↓w_ne, ↓w_eql, ↓w_nel, ↓w_tup, ↓w_lst, ↓w_lstT, ↓w_frUs0, ↓w_frUs1, ↓w_frUsL, wp_ok, wp_okP, wp_bad, wp_ite, wp_nxt, wp_rdp, wp_frp, wp_some, wp_finp, wp_newU, wp_rdl', wp_setix, wp_setf, wp_updL, wp_guard, kB_ap, kM_ap, kS_nx, kS_rt, kS_bk, kS_ct, kS_ex, kX_ap, kF_rt, kF_nx, kF_ex, oW_s, oW_n, oW_i, prE, bindA, Dfl.w, kCall, kMc2, kNew, truW, tagW, subT, addW, subW, modW, cmpW, ixW, lenW, seqW, isNon, boolsW, MO.frz, fldU, augM, augW, oB, oI, setsL, slW, wp_optI, itemsW, mulW_l', mulW_r', wp_eqI, bnd_nm, bnd_2, bnd_3, bnd_4, wipeL, ix20, ix21, ix30, ix31, ix32, List.any_cons, List.any_nil, String.reduceBEq, Bool.or_false, Bool.or_true, Bool.false_or, Bool.true_or, Bool.and_false, Bool.and_true, Bool.false_and, Bool.true_and, Bool.not_true, Bool.not_false, beq_self_eq_true, Int.reduceLT, Int.reduceLE, Int.reduceEq, Nat.reduceLT, Nat.reduceLeDiff, Nat.reduceEqDiff, decide_true, decide_false, decide_eq_true_eq, and_self, and_true, true_and, List.map_cons, List.map_nil, List.cons_append, List.nil_append, List.append_nil, List.replicate_succ, List.replicate_zero, List.length_cons, List.length_nil, List.getElem?_cons_zero, List.getElem?_cons_succ, List.set_cons_zero, List.set_cons_succ, Option.bind_some, Option.bind_none, Option.map_some, Option.map_none, Nat.reduceSub, Nat.reduceAdd, Nat.sub_self, Nat.add_zero, Nat.zero_add, ite_true, ite_false, if_true, if_false, Bool.false_eq_true, reduceCtorEq, List.take_length, rcv_join, rcv_split, rcv_find, rcv_index, rcv_indexL, rcv_count, rcv_append, rcv_extend, eqF_pp, inW_ints, wp_eqI, wp_eqB, hA, hB, flipW]; try simp)
end L_k05
end
section
set_option Elab.async false
set_option linter.all false
set_option maxHeartbeats 2000000
set_option maxRecDepth 100000
namespace L_k05
open PySem Pm
theorem law_made_eq {k : Nat} {n : Int} {ls ws ps : List Int} (f : RF n ls ws ps) : callM P (k + 4) "_law_made" [.p (factsW n ls ws ps)] = okP (ringW n ls ws (iW ps)) := by
  have r0 := ring_newP (k := k) (w := P.wh) (gl := P.glob) f.n2 f.n12 f.ls f.ws f.pl f.ps
  refine eq_of_wp fun S => w_call fn__law_made rfl ?_
  simp only [b__law_made, factsW]
  try simp -implicitDefEqProofs only [↓w_bind, ↓w_inS, ↓w_inSb, ↓w_inSs, ↓w_cons, ↓wp_nil, ↓wE_var, ↓wE_cst, ↓wE_glob, ↓wE_pr, ↓w_kAnd, ↓w_kOr, ↓wE_and, ↓wE_or, ↓wE_not, ↓w_kNot, ↓w_kIte, ↓wE_ite, ↓wE_chain, ↓w_kCh1, ↓w_kCh2, ↓w_kCh3, ↓wE_chain3, ↓w_kDh1, ↓w_kDh2, ↓w_kDh3, ↓w_kDh4, ↓w_kDh5, ↓wT_chain3, ↓wE_comp, ↓w_kComp0, ↓w_kComp2f, ↓w_kComp2t, ↓wE_call, ↓wE_meth, ↓w_kMe1, ↓w_kMe2, ↓wE_mcall, ↓w_kMc0, ↓w_kMc1, ↓wE_new, ↓wE_fld, ↓wEs_nil, ↓wEs_cons, ↓w_kEs1, ↓w_kEs2, ↓wT_and, ↓wT_or, ↓wT_not, ↓w_kTA, ↓w_kTO, ↓w_kTN, ↓wT_var, ↓wT_cst, ↓wT_pr, ↓wT_chain, ↓wT_call, ↓wT_meth, ↓wT_mcall, ↓wT_fld, ↓wC_nil, ↓wC_cons, ↓w_kC, ↓w_kCf2, ↓w_kCf3, ↓wS_expr, ↓wS_asg, ↓wS_asT, ↓w_kAsT, ↓wS_par, ↓w_kPar, ↓wS_setix, ↓w_kSx1, ↓w_kSx2, ↓w_kSx3, ↓wS_setix2, ↓w_kSy1, ↓w_kSy2, ↓w_kSy3, ↓wS_setf, ↓w_kSf1, ↓w_kSf2, ↓wS_aug, ↓w_kAu, ↓wS_ret, ↓wS_retN, ↓wS_ifs, ↓w_kIf, ↓wS_for, ↓w_kFor, ↓wS_whl, ↓wS_brk, ↓wS_cnt, ↓wS_pass, ↓wS_raise, ↓wS_thru, ↓w_itN, ↓w_itP, ↓w_truU, ↓w_truL, ↓w_p1, ↓w_p1l, ↓w_p2, ↓w_p2l, ↓w_p2r, ↓w_eq, ↓w_ne, ↓w_eql, ↓w_nel, ↓w_tup, ↓w_lst, ↓w_lstT, ↓w_frUs0, ↓w_frUs1, ↓w_frUsL, wp_ok, wp_okP, wp_bad, wp_ite, wp_nxt, wp_rdp, wp_frp, wp_some, wp_finp, wp_newU, wp_rdl', wp_setix, wp_setf, wp_updL, wp_guard, kB_ap, kM_ap, kS_nx, kS_rt, kS_bk, kS_ct, kS_ex, kX_ap, kF_rt, kF_nx, kF_ex, oW_s, oW_n, oW_i, prE, bindA, Dfl.w, kCall, kMc2, kNew, truW, tagW, subT, addW, subW, modW, cmpW, ixW, lenW, seqW, isNon, boolsW, MO.frz, fldU, augM, augW, oB, oI, setsL, slW, wp_optI, itemsW, mulW_l', mulW_r', wp_eqI, bnd_nm, bnd_2, bnd_3, bnd_4, wipeL, ix20, ix21, ix30, ix31, ix32, List.any_cons, List.any_nil, String.reduceBEq, Bool.or_false, Bool.or_true, Bool.false_or, Bool.true_or, Bool.and_false, Bool.and_true, Bool.false_and, Bool.true_and, Bool.not_true, Bool.not_false, beq_self_eq_true, Int.reduceLT, Int.reduceLE, Int.reduceEq, Nat.reduceLT, Nat.reduceLeDiff, Nat.reduceEqDiff, decide_true, decide_false, decide_eq_true_eq, and_self, and_true, true_and, List.map_cons, List.map_nil, List.cons_append, List.nil_append, List.append_nil, List.replicate_succ, List.replicate_zero, List.length_cons, List.length_nil, List.getElem?_cons_zero, List.getElem?_cons_succ, List.set_cons_zero, List.set_cons_succ, Option.bind_some, Option.bind_none, Option.map_some, Option.map_none, Nat.reduceSub, Nat.reduceAdd, Nat.sub_self, Nat.add_zero, Nat.zero_add, ite_true, ite_false, if_true, if_false, Bool.false_eq_true, reduceCtorEq, List.take_length, rcv_join, rcv_split, rcv_find, rcv_index, rcv_indexL, rcv_count, rcv_append, rcv_extend, eqF_pp, i40, i41, i42, i43, r0]
  all_goals try first | rfl | exact ⟨rfl, take_all rfl⟩
theorem odd_of {w : W} {t : String} (h1 : bltW w = true) (h2 : tagW w = some t) (h3 : subT t "Ring" = false) : Odd w := ⟨h1, t, h2, h3⟩
theorem law_right_wp {k p : Nat} {S : Sto} (hp : PoolAt S p) : Wp (callM P (k + 6) "_law_right" [.loc p]) (fun u S' => u = .p (.bl true)) noE S := by
  refine w_call fn__law_right rfl ?_
  simp only [b__law_right]
  have hn := hp.len
  try simp -implicitDefEqProofs only [↓w_bind, ↓w_inS, ↓w_inSb, ↓w_inSs, ↓w_cons, ↓wp_nil, ↓wE_var, ↓wE_cst, ↓wE_glob, ↓wE_pr, ↓w_kAnd, ↓w_kOr, ↓wE_and, ↓wE_or, ↓wE_not, ↓w_kNot, ↓w_kIte, ↓wE_ite, ↓wE_chain, ↓w_kCh1, ↓w_kCh2, ↓w_kCh3, ↓wE_chain3, ↓w_kDh1, ↓w_kDh2, ↓w_kDh3, ↓w_kDh4, ↓w_kDh5, ↓wT_chain3, ↓wE_comp, ↓w_kComp0, ↓w_kComp2f, ↓w_kComp2t, ↓wE_call, ↓wE_meth, ↓w_kMe1, ↓w_kMe2, ↓wE_mcall, ↓w_kMc0, ↓w_kMc1, ↓wE_new, ↓wE_fld, ↓wEs_nil, ↓wEs_cons, ↓w_kEs1, ↓w_kEs2, ↓wT_and, ↓wT_or, ↓wT_not, ↓w_kTA, ↓w_kTO, ↓w_kTN, ↓wT_var, ↓wT_cst, ↓wT_pr, ↓wT_chain, ↓wT_call, ↓wT_meth, ↓wT_mcall, ↓wT_fld, ↓wC_nil, ↓wC_cons, ↓w_kC, ↓w_kCf2, ↓w_kCf3, ↓wS_expr, ↓wS_asg, ↓wS_asT, ↓w_kAsT, ↓wS_par, ↓w_kPar, ↓wS_setix, ↓w_kSx1, ↓w_kSx2, ↓w_kSx3, ↓wS_setix2, ↓w_kSy1, ↓w_kSy2, ↓w_kSy3, ↓wS_setf, ↓w_kSf1, ↓w_kSf2, ↓wS_aug, ↓w_kAu, ↓wS_ret, ↓wS_retN, ↓wS_ifs, ↓w_kIf, ↓wS_for, ↓w_kFor, ↓wS_whl, ↓wS_brk, ↓wS_cnt, ↓wS_pass, ↓wS_raise, ↓wS_thru, ↓w_itN, ↓w_itP, ↓w_truU, ↓w_truL, ↓w_p1, ↓w_p1l, ↓w_p2, ↓w_p2l, ↓w_p2r, ↓w_eq, ↓w_ne, ↓w_eql, ↓w_nel, ↓w_tup, ↓w_lst, ↓w_lstT, ↓w_frUs0, ↓w_frUs1, ↓w_frUsL, wp_ok, wp_okP, wp_bad, wp_ite, wp_nxt, wp_rdp, wp_frp, wp_some, wp_finp, wp_newU, wp_rdl', wp_setix, wp_setf, wp_updL, wp_guard, kB_ap, kM_ap, kS_nx, kS_rt, kS_bk, kS_ct, kS_ex, kX_ap, kF_rt, kF_nx, kF_ex, oW_s, oW_n, oW_i, prE, bindA, Dfl.w, kCall, kMc2, kNew, truW, tagW, subT, addW, subW, modW, cmpW, ixW, lenW, seqW, isNon, boolsW, MO.frz, fldU, augM, augW, oB, oI, setsL, slW, wp_optI, itemsW, mulW_l', mulW_r', wp_eqI, bnd_nm, bnd_2, bnd_3, bnd_4, wipeL, ix20, ix21, ix30, ix31, ix32, List.any_cons, List.any_nil, String.reduceBEq, Bool.or_false, Bool.or_true, Bool.false_or, Bool.true_or, Bool.and_false, Bool.and_true, Bool.false_and, Bool.true_and, Bool.not_true, Bool.not_false, beq_self_eq_true, Int.reduceLT, Int.reduceLE, Int.reduceEq, Nat.reduceLT, Nat.reduceLeDiff, Nat.reduceEqDiff, decide_true, decide_false, decide_eq_true_eq, and_self, and_true, true_and, List.map_cons, List.map_nil, List.cons_append, List.nil_append, List.append_nil, List.replicate_succ, List.replicate_zero, List.length_cons, List.length_nil, List.getElem?_cons_zero, List.getElem?_cons_succ, List.set_cons_zero, List.set_cons_succ, Option.bind_some, Option.bind_none, Option.map_some, Option.map_none, Nat.reduceSub, Nat.reduceAdd, Nat.sub_self, Nat.add_zero, Nat.zero_add, ite_true, ite_false, if_true, if_false, Bool.false_eq_true, reduceCtorEq, List.take_length, rcv_join, rcv_split, rcv_find, rcv_index, rcv_indexL, rcv_count, rcv_append, rcv_extend, eqF_pp]
  refine (law_facts_wp (k := k + 2) hp (by decide) (by decide)).mono (fun u S1 ⟨c, ls, ws, ps, e, f, p1⟩ => ?_) fun _ _ _ z => z.elim
  subst e
  have f : RF c ls ws ps := ⟨f.n2, f.nm, f.ls, f.ws, f.pl, f.ps⟩
  have m0 := law_made_eq (k := k + 1) f
  have pr0 := parse_ring_eq (k := k) f
  have st : ∀ (QU : U → Sto → Prop) (E : WE) (S : Sto), Wp (strM (callM P (k + 5)) (.p (ringW c ls ws (iW ps)))) QU E S = QU (.p (.str (ringS c ls ws ps))) S := fun QU E S => w_strRing (k := k + 4) f
  have al : callM P (k + 5) "_law_alike" [.p (ringW c ls ws (iW ps)), .p (ringW c ls ws (iW ps)), .p (.bl true)] = okP (.bl true) := law_alike_eq (k := k + 4) (cmp_ring (k := k + 3) (by simp))
  have odd : ∀ w, Odd w → callM P (k + 5) "_law_alike" [.p (ringW c ls ws (iW ps)), .p w, .p (.bl false)] = okP (.bl true) := fun w h => law_alike_eq (k := k + 4) (cmp_odd (k := k + 3) h)
  have oth : ∀ w, Oth c ls ws ps w → ∃ r, callM P (k + 5) "_law_made" [.p w] = okP r ∧ callM P (k + 5) "_law_alike" [.p (ringW c ls ws (iW ps)), .p r, .p (.bl false)] = okP (.bl true) := by
    rintro w ⟨n', ls', ws', ps', rfl, f', hne⟩
    exact ⟨_, law_made_eq (k := k + 1) f', law_alike_eq (k := k + 4) (cmp_ring (k := k + 3) (by simpa using hne))⟩
  have tk := fun S => law_take_wp (k := k + 4) (n := p) (m := 2) (S := S)
  have bx9 : boolsW [W.bl true, W.bl true, W.bl true, W.bl true, W.bl true, W.bl true, W.bl true, W.bl true, W.bl true] = some [true, true, true, true, true, true, true, true, true] := rfl
  -- behind the second ring
  have fin : ∀ (S4 : Sto), PoolTo S p S4 → Wp (evB { call := callM P (k + 5), glob := P.glob, wh := P.wh } (b__law_right.body.drop 3) [some (.loc p), some (.p (factsW c ls ws ps)), some (.p (ringW c ls ws (iW ps))), some (.p (ringW c ls ws (iW ps))), none, none]) (kF false S.length (fun u S' => u = .p (.bl true)) noE) (fun _ _ _ => False) S4 := by
    intro S4 p4
    simp only [b__law_right, List.drop_succ_cons, List.drop_zero]
    try simp -implicitDefEqProofs only [↓w_bind, ↓w_inS, ↓w_inSb, ↓w_inSs, ↓w_cons, ↓wp_nil, ↓wE_var, ↓wE_cst, ↓wE_glob, ↓wE_pr, ↓w_kAnd, ↓w_kOr, ↓wE_and, ↓wE_or, ↓wE_not, ↓w_kNot, ↓w_kIte, ↓wE_ite, ↓wE_chain, ↓w_kCh1, ↓w_kCh2, ↓w_kCh3, ↓wE_chain3, ↓w_kDh1, ↓w_kDh2, ↓w_kDh3, ↓w_kDh4, ↓w_kDh5, ↓wT_chain3, ↓wE_comp, ↓w_kComp0, ↓w_kComp2f, ↓w_kComp2t, ↓wE_call, ↓wE_meth, ↓w_kMe1, ↓w_kMe2, ↓wE_mcall, ↓w_kMc0, ↓w_kMc1, ↓wE_new, ↓wE_fld, ↓wEs_nil, ↓wEs_cons, ↓w_kEs1, ↓w_kEs2, ↓wT_and, ↓wT_or, ↓wT_not, ↓w_kTA, ↓w_kTO, ↓w_kTN, ↓wT_var, ↓wT_cst, ↓wT_pr, ↓wT_chain, ↓wT_call, ↓wT_meth, ↓wT_mcall, ↓wT_fld, ↓wC_nil, ↓wC_cons, ↓w_kC, ↓w_kCf2, ↓w_kCf3, ↓wS_expr, ↓wS_asg, ↓wS_asT, ↓w_kAsT, ↓wS_par, ↓w_kPar, ↓wS_setix, ↓w_kSx1, ↓w_kSx2, ↓w_kSx3, ↓wS_setix2, ↓w_kSy1, ↓w_kSy2, ↓w_kSy3, ↓wS_setf, ↓w_kSf1, ↓w_kSf2, ↓wS_aug, ↓w_kAu, ↓wS_ret, ↓wS_retN, ↓wS_ifs, ↓w_kIf, ↓wS_for, ↓w_kFor, ↓wS_whl, ↓wS_brk, ↓wS_cnt, ↓wS_pass, ↓wS_raise, ↓wS_thru, ↓w_itN, ↓w_itP, ↓w_truU, ↓w_truL, ↓w_p1, ↓w_p1l, ↓w_p2, ↓w_p2l, ↓w_p2r, ↓w_eq, ↓w_ne, ↓w_eql, ↓w_nel, ↓w_tup, ↓w_lst, ↓w_lstT, ↓w_frUs0, ↓w_frUs1, ↓w_frUsL, wp_ok, wp_okP, wp_bad, wp_ite, wp_nxt, wp_rdp, wp_frp, wp_some, wp_finp, wp_newU, wp_rdl', wp_setix, wp_setf, wp_updL, wp_guard, kB_ap, kM_ap, kS_nx, kS_rt, kS_bk, kS_ct, kS_ex, kX_ap, kF_rt, kF_nx, kF_ex, oW_s, oW_n, oW_i, prE, bindA, Dfl.w, kCall, kMc2, kNew, truW, tagW, subT, addW, subW, modW, cmpW, ixW, lenW, seqW, isNon, boolsW, MO.frz, fldU, augM, augW, oB, oI, setsL, slW, wp_optI, itemsW, mulW_l', mulW_r', wp_eqI, bnd_nm, bnd_2, bnd_3, bnd_4, wipeL, ix20, ix21, ix30, ix31, ix32, List.any_cons, List.any_nil, String.reduceBEq, Bool.or_false, Bool.or_true, Bool.false_or, Bool.true_or, Bool.and_false, Bool.and_true, Bool.false_and, Bool.true_and, Bool.not_true, Bool.not_false, beq_self_eq_true, Int.reduceLT, Int.reduceLE, Int.reduceEq, Nat.reduceLT, Nat.reduceLeDiff, Nat.reduceEqDiff, decide_true, decide_false, decide_eq_true_eq, and_self, and_true, true_and, List.map_cons, List.map_nil, List.cons_append, List.nil_append, List.append_nil, List.replicate_succ, List.replicate_zero, List.length_cons, List.length_nil, List.getElem?_cons_zero, List.getElem?_cons_succ, List.set_cons_zero, List.set_cons_succ, Option.bind_some, Option.bind_none, Option.map_some, Option.map_none, Nat.reduceSub, Nat.reduceAdd, Nat.sub_self, Nat.add_zero, Nat.zero_add, ite_true, ite_false, if_true, if_false, Bool.false_eq_true, reduceCtorEq, List.take_length, rcv_join, rcv_split, rcv_find, rcv_index, rcv_indexL, rcv_count, rcv_append, rcv_extend, eqF_pp, al]
    refine (law_others_wp (k := k + 3) (p4.at_ hn) f).mono (fun u S5 ⟨os, e, ho, hol, p5⟩ => ?_) fun _ _ _ z => z.elim
    subst e
    try simp -implicitDefEqProofs only [↓w_bind, ↓w_inS, ↓w_inSb, ↓w_inSs, ↓w_cons, ↓wp_nil, ↓wE_var, ↓wE_cst, ↓wE_glob, ↓wE_pr, ↓w_kAnd, ↓w_kOr, ↓wE_and, ↓wE_or, ↓wE_not, ↓w_kNot, ↓w_kIte, ↓wE_ite, ↓wE_chain, ↓w_kCh1, ↓w_kCh2, ↓w_kCh3, ↓wE_chain3, ↓w_kDh1, ↓w_kDh2, ↓w_kDh3, ↓w_kDh4, ↓w_kDh5, ↓wT_chain3, ↓wE_comp, ↓w_kComp0, ↓w_kComp2f, ↓w_kComp2t, ↓wE_call, ↓wE_meth, ↓w_kMe1, ↓w_kMe2, ↓wE_mcall, ↓w_kMc0, ↓w_kMc1, ↓wE_new, ↓wE_fld, ↓wEs_nil, ↓wEs_cons, ↓w_kEs1, ↓w_kEs2, ↓wT_and, ↓wT_or, ↓wT_not, ↓w_kTA, ↓w_kTO, ↓w_kTN, ↓wT_var, ↓wT_cst, ↓wT_pr, ↓wT_chain, ↓wT_call, ↓wT_meth, ↓wT_mcall, ↓wT_fld, ↓wC_nil, ↓wC_cons, ↓w_kC, ↓w_kCf2, ↓w_kCf3, ↓wS_expr, ↓wS_asg, ↓wS_asT, ↓w_kAsT, ↓wS_par, ↓w_kPar, ↓wS_setix, ↓w_kSx1, ↓w_kSx2, ↓w_kSx3, ↓wS_setix2, ↓w_kSy1, ↓w_kSy2, ↓w_kSy3, ↓wS_setf, ↓w_kSf1, ↓w_kSf2, ↓wS_aug, ↓w_kAu, ↓wS_ret, ↓wS_retN, ↓wS_ifs, ↓w_kIf, ↓wS_for, ↓w_kFor, ↓wS_whl, ↓wS_brk, ↓wS_cnt, ↓wS_pass, ↓wS_raise, ↓wS_thru, ↓w_itN, ↓w_itP, ↓w_truU, ↓w_truL, ↓w_p1, ↓w_p1l, ↓w_p2, ↓w_p2l, ↓w_p2r, ↓w_eq, ↓w_ne, ↓w_eql, ↓w_nel, ↓w_tup, ↓w_lst, ↓w_lstT, ↓w_frUs0, ↓w_frUs1, ↓w_frUsL, wp_ok, wp_okP, wp_bad, wp_ite, wp_nxt, wp_rdp, wp_frp, wp_some, wp_finp, wp_newU, wp_rdl', wp_setix, wp_setf, wp_updL, wp_guard, kB_ap, kM_ap, kS_nx, kS_rt, kS_bk, kS_ct, kS_ex, kX_ap, kF_rt, kF_nx, kF_ex, oW_s, oW_n, oW_i, prE, bindA, Dfl.w, kCall, kMc2, kNew, truW, tagW, subT, addW, subW, modW, cmpW, ixW, lenW, seqW, isNon, boolsW, MO.frz, fldU, augM, augW, oB, oI, setsL, slW, wp_optI, itemsW, mulW_l', mulW_r', wp_eqI, bnd_nm, bnd_2, bnd_3, bnd_4, wipeL, ix20, ix21, ix30, ix31, ix32, List.any_cons, List.any_nil, String.reduceBEq, Bool.or_false, Bool.or_true, Bool.false_or, Bool.true_or, Bool.and_false, Bool.and_true, Bool.false_and, Bool.true_and, Bool.not_true, Bool.not_false, beq_self_eq_true, Int.reduceLT, Int.reduceLE, Int.reduceEq, Nat.reduceLT, Nat.reduceLeDiff, Nat.reduceEqDiff, decide_true, decide_false, decide_eq_true_eq, and_self, and_true, true_and, List.map_cons, List.map_nil, List.cons_append, List.nil_append, List.append_nil, List.replicate_succ, List.replicate_zero, List.length_cons, List.length_nil, List.getElem?_cons_zero, List.getElem?_cons_succ, List.set_cons_zero, List.set_cons_succ, Option.bind_some, Option.bind_none, Option.map_some, Option.map_none, Nat.reduceSub, Nat.reduceAdd, Nat.sub_self, Nat.add_zero, Nat.zero_add, ite_true, ite_false, if_true, if_false, Bool.false_eq_true, reduceCtorEq, List.take_length, rcv_join, rcv_split, rcv_find, rcv_index, rcv_indexL, rcv_count, rcv_append, rcv_extend, eqF_pp, itU, walkU, itemsW, wp_guard]
    refine ⟨by simp only [bigLine]; omega, ?_⟩
    rw [wp_compM (g := fun _ => .bl true) fun w hw => ?_]
    · have b1 : boolsW (os.map fun _ => W.bl true) = some (os.map fun _ => true) := bools_map (p := fun _ => true)
      have b2 : (os.map fun _ => true).all id = true := by simp
      simp only [factsW]
      try simp -implicitDefEqProofs only [↓w_bind, ↓w_inS, ↓w_inSb, ↓w_inSs, ↓w_cons, ↓wp_nil, ↓wE_var, ↓wE_cst, ↓wE_glob, ↓wE_pr, ↓w_kAnd, ↓w_kOr, ↓wE_and, ↓wE_or, ↓wE_not, ↓w_kNot, ↓w_kIte, ↓wE_ite, ↓wE_chain, ↓w_kCh1, ↓w_kCh2, ↓w_kCh3, ↓wE_chain3, ↓w_kDh1, ↓w_kDh2, ↓w_kDh3, ↓w_kDh4, ↓w_kDh5, ↓wT_chain3, ↓wE_comp, ↓w_kComp0, ↓w_kComp2f, ↓w_kComp2t, ↓wE_call, ↓wE_meth, ↓w_kMe1, ↓w_kMe2, ↓wE_mcall, ↓w_kMc0, ↓w_kMc1, ↓wE_new, ↓wE_fld, ↓wEs_nil, ↓wEs_cons, ↓w_kEs1, ↓w_kEs2, ↓wT_and, ↓wT_or, ↓wT_not, ↓w_kTA, ↓w_kTO, ↓w_kTN, ↓wT_var, ↓wT_cst, ↓wT_pr, ↓wT_chain, ↓wT_call, ↓wT_meth, ↓wT_mcall, ↓wT_fld, ↓wC_nil, ↓wC_cons, ↓w_kC, ↓w_kCf2, ↓w_kCf3, ↓wS_expr, ↓wS_asg, ↓wS_asT, ↓w_kAsT, ↓wS_par, ↓w_kPar, ↓wS_setix, ↓w_kSx1, ↓w_kSx2, ↓w_kSx3, ↓wS_setix2, ↓w_kSy1, ↓w_kSy2, ↓w_kSy3, ↓wS_setf, ↓w_kSf1, ↓w_kSf2, ↓wS_aug, ↓w_kAu, ↓wS_ret, ↓wS_retN, ↓wS_ifs, ↓w_kIf, ↓wS_for, ↓w_kFor, ↓wS_whl, ↓wS_brk, ↓wS_cnt, ↓wS_pass, ↓wS_raise, ↓wS_thru, ↓w_itN, ↓w_itP, ↓w_truU, ↓w_truL, ↓w_p1, ↓w_p1l, ↓w_p2, ↓w_p2l, ↓w_p2r, ↓w_eq, ↓w_ne, ↓w_eql, ↓w_nel, ↓w_tup, ↓w_lst, ↓w_lstT, ↓w_frUs0, ↓w_frUs1, ↓w_frUsL, wp_ok, wp_okP, wp_bad, wp_ite, wp_nxt, wp_rdp, wp_frp, wp_some, wp_finp, wp_newU, wp_rdl', wp_setix, wp_setf, wp_updL, wp_guard, kB_ap, kM_ap, kS_nx, kS_rt, kS_bk, kS_ct, kS_ex, kX_ap, kF_rt, kF_nx, kF_ex, oW_s, oW_n, oW_i, prE, bindA, Dfl.w, kCall, kMc2, kNew, truW, tagW, subT, addW, subW, modW, cmpW, ixW, lenW, seqW, isNon, boolsW, MO.frz, fldU, augM, augW, oB, oI, setsL, slW, wp_optI, itemsW, mulW_l', mulW_r', wp_eqI, bnd_nm, bnd_2, bnd_3, bnd_4, wipeL, ix20, ix21, ix30, ix31, ix32, List.any_cons, List.any_nil, String.reduceBEq, Bool.or_false, Bool.or_true, Bool.false_or, Bool.true_or, Bool.and_false, Bool.and_true, Bool.false_and, Bool.true_and, Bool.not_true, Bool.not_false, beq_self_eq_true, Int.reduceLT, Int.reduceLE, Int.reduceEq, Nat.reduceLT, Nat.reduceLeDiff, Nat.reduceEqDiff, decide_true, decide_false, decide_eq_true_eq, and_self, and_true, true_and, List.map_cons, List.map_nil, List.cons_append, List.nil_append, List.append_nil, List.replicate_succ, List.replicate_zero, List.length_cons, List.length_nil, List.getElem?_cons_zero, List.getElem?_cons_succ, List.set_cons_zero, List.set_cons_succ, Option.bind_some, Option.bind_none, Option.map_some, Option.map_none, Nat.reduceSub, Nat.reduceAdd, Nat.sub_self, Nat.add_zero, Nat.zero_add, ite_true, ite_false, if_true, if_false, Bool.false_eq_true, reduceCtorEq, List.take_length, rcv_join, rcv_split, rcv_find, rcv_index, rcv_indexL, rcv_count, rcv_append, rcv_extend, eqF_pp, b1, b2, st, i40]
      refine ⟨by decide, ?_⟩
      rw [wp_compM (g := fun _ => .bl true) fun w hw => ?_]
      · try simp -implicitDefEqProofs only [↓w_bind, ↓w_inS, ↓w_inSb, ↓w_inSs, ↓w_cons, ↓wp_nil, ↓wE_var, ↓wE_cst, ↓wE_glob, ↓wE_pr, ↓w_kAnd, ↓w_kOr, ↓wE_and, ↓wE_or, ↓wE_not, ↓w_kNot, ↓w_kIte, ↓wE_ite, ↓wE_chain, ↓w_kCh1, ↓w_kCh2, ↓w_kCh3, ↓wE_chain3, ↓w_kDh1, ↓w_kDh2, ↓w_kDh3, ↓w_kDh4, ↓w_kDh5, ↓wT_chain3, ↓wE_comp, ↓w_kComp0, ↓w_kComp2f, ↓w_kComp2t, ↓wE_call, ↓wE_meth, ↓w_kMe1, ↓w_kMe2, ↓wE_mcall, ↓w_kMc0, ↓w_kMc1, ↓wE_new, ↓wE_fld, ↓wEs_nil, ↓wEs_cons, ↓w_kEs1, ↓w_kEs2, ↓wT_and, ↓wT_or, ↓wT_not, ↓w_kTA, ↓w_kTO, ↓w_kTN, ↓wT_var, ↓wT_cst, ↓wT_pr, ↓wT_chain, ↓wT_call, ↓wT_meth, ↓wT_mcall, ↓wT_fld, ↓wC_nil, ↓wC_cons, ↓w_kC, ↓w_kCf2, ↓w_kCf3, ↓wS_expr, ↓wS_asg, ↓wS_asT, ↓w_kAsT, ↓wS_par, ↓w_kPar, ↓wS_setix, ↓w_kSx1, ↓w_kSx2, ↓w_kSx3, ↓wS_setix2, ↓w_kSy1, ↓w_kSy2, ↓w_kSy3, ↓wS_setf, ↓w_kSf1, ↓w_kSf2, ↓wS_aug, ↓w_kAu, ↓wS_ret, ↓wS_retN, ↓wS_ifs, ↓w_kIf, ↓wS_for, ↓w_kFor, ↓wS_whl, ↓wS_brk, ↓wS_cnt, ↓wS_pass, ↓wS_raise, ↓wS_thru, ↓w_itN, ↓w_itP, ↓w_truU, ↓w_truL, ↓w_p1, ↓w_p1l, ↓w_p2, ↓w_p2l, ↓w_p2r, ↓w_eq, ↓w_ne, ↓w_eql, ↓w_nel, ↓w_tup, ↓w_lst, ↓w_lstT, ↓w_frUs0, ↓w_frUs1, ↓w_frUsL, wp_ok, wp_okP, wp_bad, wp_ite, wp_nxt, wp_rdp, wp_frp, wp_some, wp_finp, wp_newU, wp_rdl', wp_setix, wp_setf, wp_updL, wp_guard, kB_ap, kM_ap, kS_nx, kS_rt, kS_bk, kS_ct, kS_ex, kX_ap, kF_rt, kF_nx, kF_ex, oW_s, oW_n, oW_i, prE, bindA, Dfl.w, kCall, kMc2, kNew, truW, tagW, subT, addW, subW, modW, cmpW, ixW, lenW, seqW, isNon, boolsW, MO.frz, fldU, augM, augW, oB, oI, setsL, slW, wp_optI, itemsW, mulW_l', mulW_r', wp_eqI, bnd_nm, bnd_2, bnd_3, bnd_4, wipeL, ix20, ix21, ix30, ix31, ix32, List.any_cons, List.any_nil, String.reduceBEq, Bool.or_false, Bool.or_true, Bool.false_or, Bool.true_or, Bool.and_false, Bool.and_true, Bool.false_and, Bool.true_and, Bool.not_true, Bool.not_false, beq_self_eq_true, Int.reduceLT, Int.reduceLE, Int.reduceEq, Nat.reduceLT, Nat.reduceLeDiff, Nat.reduceEqDiff, decide_true, decide_false, decide_eq_true_eq, and_self, and_true, true_and, List.map_cons, List.map_nil, List.cons_append, List.nil_append, List.append_nil, List.replicate_succ, List.replicate_zero, List.length_cons, List.length_nil, List.getElem?_cons_zero, List.getElem?_cons_succ, List.set_cons_zero, List.set_cons_succ, Option.bind_some, Option.bind_none, Option.map_some, Option.map_none, Nat.reduceSub, Nat.reduceAdd, Nat.sub_self, Nat.add_zero, Nat.zero_add, ite_true, ite_false, if_true, if_false, Bool.false_eq_true, reduceCtorEq, List.take_length, rcv_join, rcv_split, rcv_find, rcv_index, rcv_indexL, rcv_count, rcv_append, rcv_extend, eqF_pp]
        try rfl
      · have ow : Odd w := by
          simp only [List.mem_cons, List.not_mem_nil, or_false] at hw
          rcases hw with rfl | rfl | rfl | rfl | rfl | rfl | rfl | rfl | rfl
          · exact odd_of rfl rfl (by decide)
          · exact odd_of rfl rfl (by decide)
          · exact odd_of rfl rfl (by decide)
          · exact odd_of rfl rfl (by decide)
          · exact odd_of rfl rfl (by decide)
          · exact odd_of rfl rfl (by decide)
          · exact odd_of rfl rfl (by decide)
          · exact odd_of rfl rfl (by decide)
          · exact odd_of rfl rfl (by decide)
        have o1 := odd w ow
        rw [w_compF rfl]
        try simp -implicitDefEqProofs only [↓w_bind, ↓w_inS, ↓w_inSb, ↓w_inSs, ↓w_cons, ↓wp_nil, ↓wE_var, ↓wE_cst, ↓wE_glob, ↓wE_pr, ↓w_kAnd, ↓w_kOr, ↓wE_and, ↓wE_or, ↓wE_not, ↓w_kNot, ↓w_kIte, ↓wE_ite, ↓wE_chain, ↓w_kCh1, ↓w_kCh2, ↓w_kCh3, ↓wE_chain3, ↓w_kDh1, ↓w_kDh2, ↓w_kDh3, ↓w_kDh4, ↓w_kDh5, ↓wT_chain3, ↓wE_comp, ↓w_kComp0, ↓w_kComp2f, ↓w_kComp2t, ↓wE_call, ↓wE_meth, ↓w_kMe1, ↓w_kMe2, ↓wE_mcall, ↓w_kMc0, ↓w_kMc1, ↓wE_new, ↓wE_fld, ↓wEs_nil, ↓wEs_cons, ↓w_kEs1, ↓w_kEs2, ↓wT_and, ↓wT_or, ↓wT_not, ↓w_kTA, ↓w_kTO, ↓w_kTN, ↓wT_var, ↓wT_cst, ↓wT_pr, ↓wT_chain, ↓wT_call, ↓wT_meth, ↓wT_mcall, ↓wT_fld, ↓wC_nil, ↓wC_cons, ↓w_kC, ↓w_kCf2, ↓w_kCf3, ↓wS_expr, ↓wS_asg, ↓wS_asT, ↓w_kAsT, ↓wS_par, ↓w_kPar, ↓wS_setix, ↓w_kSx1, ↓w_kSx2, ↓w_kSx3, ↓wS_setix2, ↓w_kSy1, ↓w_kSy2, ↓w_kSy3, ↓wS_setf, ↓w_kSf1, ↓w_kSf2, ↓wS_aug, ↓w_kAu, ↓wS_ret, ↓wS_retN, ↓wS_ifs, ↓w_kIf, ↓wS_for, ↓w_kFor, ↓wS_whl, ↓wS_brk, ↓wS_cnt, ↓wS_pass, ↓wS_raise, ↓wS_thru, ↓w_itN, ↓w_itP, ↓w_truU, ↓w_truL, ↓w_p1, ↓w_p1l, ↓w_p2, ↓w_p2l, ↓w_p2r, ↓w_eq, ↓w_ne, ↓w_eql, ↓w_nel, ↓w_tup, ↓w_lst, ↓w_lstT, ↓w_frUs0, ↓w_frUs1, ↓w_frUsL, wp_ok, wp_okP, wp_bad, wp_ite, wp_nxt, wp_rdp, wp_frp, wp_some, wp_finp, wp_newU, wp_rdl', wp_setix, wp_setf, wp_updL, wp_guard, kB_ap, kM_ap, kS_nx, kS_rt, kS_bk, kS_ct, kS_ex, kX_ap, kF_rt, kF_nx, kF_ex, oW_s, oW_n, oW_i, prE, bindA, Dfl.w, kCall, kMc2, kNew, truW, tagW, subT, addW, subW, modW, cmpW, ixW, lenW, seqW, isNon, boolsW, MO.frz, fldU, augM, augW, oB, oI, setsL, slW, wp_optI, itemsW, mulW_l', mulW_r', wp_eqI, bnd_nm, bnd_2, bnd_3, bnd_4, wipeL, ix20, ix21, ix30, ix31, ix32, List.any_cons, List.any_nil, String.reduceBEq, Bool.or_false, Bool.or_true, Bool.false_or, Bool.true_or, Bool.and_false, Bool.and_true, Bool.false_and, Bool.true_and, Bool.not_true, Bool.not_false, beq_self_eq_true, Int.reduceLT, Int.reduceLE, Int.reduceEq, Nat.reduceLT, Nat.reduceLeDiff, Nat.reduceEqDiff, decide_true, decide_false, decide_eq_true_eq, and_self, and_true, true_and, List.map_cons, List.map_nil, List.cons_append, List.nil_append, List.append_nil, List.replicate_succ, List.replicate_zero, List.length_cons, List.length_nil, List.getElem?_cons_zero, List.getElem?_cons_succ, List.set_cons_zero, List.set_cons_succ, Option.bind_some, Option.bind_none, Option.map_some, Option.map_none, Nat.reduceSub, Nat.reduceAdd, Nat.sub_self, Nat.add_zero, Nat.zero_add, ite_true, ite_false, if_true, if_false, Bool.false_eq_true, reduceCtorEq, List.take_length, rcv_join, rcv_split, rcv_find, rcv_index, rcv_indexL, rcv_count, rcv_append, rcv_extend, eqF_pp, o1]
    · obtain ⟨r, e1, e2⟩ := oth w (ho w hw)
      rw [w_compF rfl]
      try simp -implicitDefEqProofs only [↓w_bind, ↓w_inS, ↓w_inSb, ↓w_inSs, ↓w_cons, ↓wp_nil, ↓wE_var, ↓wE_cst, ↓wE_glob, ↓wE_pr, ↓w_kAnd, ↓w_kOr, ↓wE_and, ↓wE_or, ↓wE_not, ↓w_kNot, ↓w_kIte, ↓wE_ite, ↓wE_chain, ↓w_kCh1, ↓w_kCh2, ↓w_kCh3, ↓wE_chain3, ↓w_kDh1, ↓w_kDh2, ↓w_kDh3, ↓w_kDh4, ↓w_kDh5, ↓wT_chain3, ↓wE_comp, ↓w_kComp0, ↓w_kComp2f, ↓w_kComp2t, ↓wE_call, ↓wE_meth, ↓w_kMe1, ↓w_kMe2, ↓wE_mcall, ↓w_kMc0, ↓w_kMc1, ↓wE_new, ↓wE_fld, ↓wEs_nil, ↓wEs_cons, ↓w_kEs1, ↓w_kEs2, ↓wT_and, ↓wT_or, ↓wT_not, ↓w_kTA, ↓w_kTO, ↓w_kTN, ↓wT_var, ↓wT_cst, ↓wT_pr, ↓wT_chain, ↓wT_call, ↓wT_meth, ↓wT_mcall, ↓wT_fld, ↓wC_nil, ↓wC_cons, ↓w_kC, ↓w_kCf2, ↓w_kCf3, ↓wS_expr, ↓wS_asg, ↓wS_asT, ↓w_kAsT, ↓wS_par, ↓w_kPar, ↓wS_setix, ↓w_kSx1, ↓w_kSx2, ↓w_kSx3, ↓wS_setix2, ↓w_kSy1, ↓w_kSy2, ↓w_kSy3, ↓wS_setf, ↓w_kSf1, ↓w_kSf2, ↓wS_aug, ↓w_kAu, ↓wS_ret, ↓wS_retN, ↓wS_ifs, ↓w_kIf, ↓wS_for, ↓w_kFor, ↓wS_whl, ↓wS_brk, ↓wS_cnt, ↓wS_pass, ↓wS_raise, ↓wS_thru, ↓w_itN, ↓w_itP, ↓w_truU, ↓w_truL, ↓w_p1, ↓w_p1l, ↓w_p2, ↓w_p2l, ↓w_p2r, ↓w_eq, ↓w_ne, ↓w_eql, ↓w_nel, ↓w_tup, ↓w_lst, ↓w_lstT, ↓w_frUs0, ↓w_frUs1, ↓w_frUsL, wp_ok, wp_okP, wp_bad, wp_ite, wp_nxt, wp_rdp, wp_frp, wp_some, wp_finp, wp_newU, wp_rdl', wp_setix, wp_setf, wp_updL, wp_guard, kB_ap, kM_ap, kS_nx, kS_rt, kS_bk, kS_ct, kS_ex, kX_ap, kF_rt, kF_nx, kF_ex, oW_s, oW_n, oW_i, prE, bindA, Dfl.w, kCall, kMc2, kNew, truW, tagW, subT, addW, subW, modW, cmpW, ixW, lenW, seqW, isNon, boolsW, MO.frz, fldU, augM, augW, oB, oI, setsL, slW, wp_optI, itemsW, mulW_l', mulW_r', wp_eqI, bnd_nm, bnd_2, bnd_3, bnd_4, wipeL, ix20, ix21, ix30, ix31, ix32, List.any_cons, List.any_nil, String.reduceBEq, Bool.or_false, Bool.or_true, Bool.false_or, Bool.true_or, Bool.and_false, Bool.and_true, Bool.false_and, Bool.true_and, Bool.not_true, Bool.not_false, beq_self_eq_true, Int.reduceLT, Int.reduceLE, Int.reduceEq, Nat.reduceLT, Nat.reduceLeDiff, Nat.reduceEqDiff, decide_true, decide_false, decide_eq_true_eq, and_self, and_true, true_and, List.map_cons, List.map_nil, List.cons_append, List.nil_append, List.append_nil, List.replicate_succ, List.replicate_zero, List.length_cons, List.length_nil, List.getElem?_cons_zero, List.getElem?_cons_succ, List.set_cons_zero, List.set_cons_succ, Option.bind_some, Option.bind_none, Option.map_some, Option.map_none, Nat.reduceSub, Nat.reduceAdd, Nat.sub_self, Nat.add_zero, Nat.zero_add, ite_true, ite_false, if_true, if_false, Bool.false_eq_true, reduceCtorEq, List.take_length, rcv_join, rcv_split, rcv_find, rcv_index, rcv_indexL, rcv_count, rcv_append, rcv_extend, eqF_pp, e1, e2]
  try simp -implicitDefEqProofs only [↓w_bind, ↓w_inS, ↓w_inSb, ↓w_inSs, ↓wE_var, ↓wE_cst, ↓wE_glob, ↓wE_pr, ↓w_kAnd, ↓w_kOr, ↓wE_and, ↓wE_or, ↓wE_not, ↓w_kNot, ↓w_kIte, ↓wE_ite, ↓wE_chain, ↓w_kCh1, ↓w_kCh2, ↓w_kCh3, ↓wE_chain3, ↓w_kDh1, ↓w_kDh2, ↓w_kDh3, ↓w_kDh4, ↓w_kDh5, ↓wT_chain3, ↓wE_comp, ↓w_kComp0, ↓w_kComp2f, ↓w_kComp2t, ↓wE_call, ↓wE_meth, ↓w_kMe1, ↓w_kMe2, ↓wE_mcall, ↓w_kMc0, ↓w_kMc1, ↓wE_new, ↓wE_fld, ↓wEs_nil, ↓wEs_cons, ↓w_kEs1, ↓w_kEs2, ↓wT_and, ↓wT_or, ↓wT_not, ↓w_kTA, ↓w_kTO, ↓w_kTN, ↓wT_var, ↓wT_cst, ↓wT_pr, ↓wT_chain, ↓wT_call, ↓wT_meth, ↓wT_mcall, ↓wT_fld, ↓wC_nil, ↓wC_cons, ↓w_kC, ↓w_kCf2, ↓w_kCf3, ↓wS_expr, ↓wS_asg, ↓wS_asT, ↓w_kAsT, ↓wS_par, ↓w_kPar, ↓wS_setix, ↓w_kSx1, ↓w_kSx2, ↓w_kSx3, ↓wS_setix2, ↓w_kSy1, ↓w_kSy2, ↓w_kSy3, ↓wS_setf, ↓w_kSf1, ↓w_kSf2, ↓wS_aug, ↓w_kAu, ↓wS_ret, ↓wS_retN, ↓wS_ifs, ↓w_kIf, ↓wS_for, ↓w_kFor, ↓wS_whl, ↓wS_brk, ↓wS_cnt, ↓wS_pass, ↓wS_raise, ↓wS_thru, ↓w_itN, ↓w_itP, ↓w_truU, ↓w_truL, ↓w_p1, ↓w_p1l, ↓w_p2, ↓w_p2l, ↓w_p2r, ↓w_eq, ↓w_ne, ↓w_eql, ↓w_nel, ↓w_tup, ↓w_lst, ↓w_lstT, ↓w_frUs0, ↓w_frUs1, ↓w_frUsL, wp_ok, wp_okP, wp_bad, wp_ite, wp_nxt, wp_rdp, wp_frp, wp_some, wp_finp, wp_newU, wp_rdl', wp_setix, wp_setf, wp_updL, wp_guard, kB_ap, kM_ap, kS_nx, kS_rt, kS_bk, kS_ct, kS_ex, kX_ap, kF_rt, kF_nx, kF_ex, oW_s, oW_n, oW_i, prE, bindA, Dfl.w, kCall, kMc2, kNew, truW, tagW, subT, addW, subW, modW, cmpW, ixW, lenW, seqW, isNon, boolsW, MO.frz, fldU, augM, augW, oB, oI, setsL, slW, wp_optI, itemsW, mulW_l', mulW_r', wp_eqI, bnd_nm, bnd_2, bnd_3, bnd_4, wipeL, ix20, ix21, ix30, ix31, ix32, List.any_cons, List.any_nil, String.reduceBEq, Bool.or_false, Bool.or_true, Bool.false_or, Bool.true_or, Bool.and_false, Bool.and_true, Bool.false_and, Bool.true_and, Bool.not_true, Bool.not_false, beq_self_eq_true, Int.reduceLT, Int.reduceLE, Int.reduceEq, Nat.reduceLT, Nat.reduceLeDiff, Nat.reduceEqDiff, decide_true, decide_false, decide_eq_true_eq, and_self, and_true, true_and, List.map_cons, List.map_nil, List.cons_append, List.nil_append, List.append_nil, List.replicate_succ, List.replicate_zero, List.length_cons, List.length_nil, List.getElem?_cons_zero, List.getElem?_cons_succ, List.set_cons_zero, List.set_cons_succ, Option.bind_some, Option.bind_none, Option.map_some, Option.map_none, Nat.reduceSub, Nat.reduceAdd, Nat.sub_self, Nat.add_zero, Nat.zero_add, ite_true, ite_false, if_true, if_false, Bool.false_eq_true, reduceCtorEq, List.take_length, rcv_join, rcv_split, rcv_find, rcv_index, rcv_indexL, rcv_count, rcv_append, rcv_extend, eqF_pp, m0]
  rw [w_cons]
  try simp -implicitDefEqProofs only [↓w_bind, ↓w_inS, ↓w_inSb, ↓w_inSs, ↓w_cons, ↓wp_nil, ↓wE_var, ↓wE_cst, ↓wE_glob, ↓wE_pr, ↓w_kAnd, ↓w_kOr, ↓wE_and, ↓wE_or, ↓wE_not, ↓w_kNot, ↓w_kIte, ↓wE_ite, ↓wE_chain, ↓w_kCh1, ↓w_kCh2, ↓w_kCh3, ↓wE_chain3, ↓w_kDh1, ↓w_kDh2, ↓w_kDh3, ↓w_kDh4, ↓w_kDh5, ↓wT_chain3, ↓wE_comp, ↓w_kComp0, ↓w_kComp2f, ↓w_kComp2t, ↓wE_call, ↓wE_meth, ↓w_kMe1, ↓w_kMe2, ↓wE_mcall, ↓w_kMc0, ↓w_kMc1, ↓wE_new, ↓wE_fld, ↓wEs_nil, ↓wEs_cons, ↓w_kEs1, ↓w_kEs2, ↓wT_and, ↓wT_or, ↓wT_not, ↓w_kTA, ↓w_kTO, ↓w_kTN, ↓wT_var, ↓wT_cst, ↓wT_pr, ↓wT_chain, ↓wT_call, ↓wT_meth, ↓wT_mcall, ↓wT_fld, ↓wC_nil, ↓wC_cons, ↓w_kC, ↓w_kCf2, ↓w_kCf3, ↓wS_expr, ↓wS_asg, ↓wS_asT, ↓w_kAsT, ↓wS_par, ↓w_kPar, ↓wS_setix, ↓w_kSx1, ↓w_kSx2, ↓w_kSx3, ↓wS_setix2, ↓w_kSy1, ↓w_kSy2, ↓w_kSy3, ↓wS_setf, ↓w_kSf1, ↓w_kSf2, ↓wS_aug, ↓w_kAu, ↓wS_ret, ↓wS_retN, ↓wS_ifs, ↓w_kIf, ↓wS_for, ↓w_kFor, ↓wS_whl, ↓wS_brk, ↓wS_cnt, ↓wS_pass, ↓wS_raise, ↓wS_thru, ↓w_itN, ↓w_itP, ↓w_truU, ↓w_truL, ↓w_p1, ↓w_p1l, ↓w_p2, ↓w_p2l, ↓w_p2r, ↓w_eq, ↓w_ne, ↓w_eql, ↓w_nel, ↓w_tup, ↓w_lst, ↓w_lstT, ↓w_frUs0, ↓w_frUs1, ↓w_frUsL, wp_ok, wp_okP, wp_bad, wp_ite, wp_nxt, wp_rdp, wp_frp, wp_some, wp_finp, wp_newU, wp_rdl', wp_setix, wp_setf, wp_updL, wp_guard, kB_ap, kM_ap, kS_nx, kS_rt, kS_bk, kS_ct, kS_ex, kX_ap, kF_rt, kF_nx, kF_ex, oW_s, oW_n, oW_i, prE, bindA, Dfl.w, kCall, kMc2, kNew, truW, tagW, subT, addW, subW, modW, cmpW, ixW, lenW, seqW, isNon, boolsW, MO.frz, fldU, augM, augW, oB, oI, setsL, slW, wp_optI, itemsW, mulW_l', mulW_r', wp_eqI, bnd_nm, bnd_2, bnd_3, bnd_4, wipeL, ix20, ix21, ix30, ix31, ix32, List.any_cons, List.any_nil, String.reduceBEq, Bool.or_false, Bool.or_true, Bool.false_or, Bool.true_or, Bool.and_false, Bool.and_true, Bool.false_and, Bool.true_and, Bool.not_true, Bool.not_false, beq_self_eq_true, Int.reduceLT, Int.reduceLE, Int.reduceEq, Nat.reduceLT, Nat.reduceLeDiff, Nat.reduceEqDiff, decide_true, decide_false, decide_eq_true_eq, and_self, and_true, true_and, List.map_cons, List.map_nil, List.cons_append, List.nil_append, List.append_nil, List.replicate_succ, List.replicate_zero, List.length_cons, List.length_nil, List.getElem?_cons_zero, List.getElem?_cons_succ, List.set_cons_zero, List.set_cons_succ, Option.bind_some, Option.bind_none, Option.map_some, Option.map_none, Nat.reduceSub, Nat.reduceAdd, Nat.sub_self, Nat.add_zero, Nat.zero_add, ite_true, ite_false, if_true, if_false, Bool.false_eq_true, reduceCtorEq, List.take_length, rcv_join, rcv_split, rcv_find, rcv_index, rcv_indexL, rcv_count, rcv_append, rcv_extend, eqF_pp, m0]
  refine (law_take_wp (k := k + 4) (p1.at_ hn) (by decide) (by decide)).mono (fun u S2 ⟨t, e, t0, t1, p2⟩ => ?_) fun _ _ _ z => z.elim
  subst e
  have p2' := p1.trans p2
  by_cases ht : t = 0
  · have b : (t == 0) = true := by simpa using ht
    try simp -implicitDefEqProofs only [↓w_bind, ↓w_inS, ↓w_inSb, ↓w_inSs, ↓wE_var, ↓wE_cst, ↓wE_glob, ↓wE_pr, ↓w_kAnd, ↓w_kOr, ↓wE_and, ↓wE_or, ↓wE_not, ↓w_kNot, ↓w_kIte, ↓wE_ite, ↓wE_chain, ↓w_kCh1, ↓w_kCh2, ↓w_kCh3, ↓wE_chain3, ↓w_kDh1, ↓w_kDh2, ↓w_kDh3, ↓w_kDh4, ↓w_kDh5, ↓wT_chain3, ↓wE_comp, ↓w_kComp0, ↓w_kComp2f, ↓w_kComp2t, ↓wE_call, ↓wE_meth, ↓w_kMe1, ↓w_kMe2, ↓wE_mcall, ↓w_kMc0, ↓w_kMc1, ↓wE_new, ↓wE_fld, ↓wEs_nil, ↓wEs_cons, ↓w_kEs1, ↓w_kEs2, ↓wT_and, ↓wT_or, ↓wT_not, ↓w_kTA, ↓w_kTO, ↓w_kTN, ↓wT_var, ↓wT_cst, ↓wT_pr, ↓wT_chain, ↓wT_call, ↓wT_meth, ↓wT_mcall, ↓wT_fld, ↓wC_nil, ↓wC_cons, ↓w_kC, ↓w_kCf2, ↓w_kCf3, ↓wS_expr, ↓wS_asg, ↓wS_asT, ↓w_kAsT, ↓wS_par, ↓w_kPar, ↓wS_setix, ↓w_kSx1, ↓w_kSx2, ↓w_kSx3, ↓wS_setix2, ↓w_kSy1, ↓w_kSy2, ↓w_kSy3, ↓wS_setf, ↓w_kSf1, ↓w_kSf2, ↓wS_aug, ↓w_kAu, ↓wS_ret, ↓wS_retN, ↓wS_ifs, ↓w_kIf, ↓wS_for, ↓w_kFor, ↓wS_whl, ↓wS_brk, ↓wS_cnt, ↓wS_pass, ↓wS_raise, ↓wS_thru, ↓w_itN, ↓w_itP, ↓w_truU, ↓w_truL, ↓w_p1, ↓w_p1l, ↓w_p2, ↓w_p2l, ↓w_p2r, ↓w_eq, ↓w_ne, ↓w_eql, ↓w_nel, ↓w_tup, ↓w_lst, ↓w_lstT, ↓w_frUs0, ↓w_frUs1, ↓w_frUsL, wp_ok, wp_okP, wp_bad, wp_ite, wp_nxt, wp_rdp, wp_frp, wp_some, wp_finp, wp_newU, wp_rdl', wp_setix, wp_setf, wp_updL, wp_guard, kB_ap, kM_ap, kS_nx, kS_rt, kS_bk, kS_ct, kS_ex, kX_ap, kF_rt, kF_nx, kF_ex, oW_s, oW_n, oW_i, prE, bindA, Dfl.w, kCall, kMc2, kNew, truW, tagW, subT, addW, subW, modW, cmpW, ixW, lenW, seqW, isNon, boolsW, MO.frz, fldU, augM, augW, oB, oI, setsL, slW, wp_optI, itemsW, mulW_l', mulW_r', wp_eqI, bnd_nm, bnd_2, bnd_3, bnd_4, wipeL, ix20, ix21, ix30, ix31, ix32, List.any_cons, List.any_nil, String.reduceBEq, Bool.or_false, Bool.or_true, Bool.false_or, Bool.true_or, Bool.and_false, Bool.and_true, Bool.false_and, Bool.true_and, Bool.not_true, Bool.not_false, beq_self_eq_true, Int.reduceLT, Int.reduceLE, Int.reduceEq, Nat.reduceLT, Nat.reduceLeDiff, Nat.reduceEqDiff, decide_true, decide_false, decide_eq_true_eq, and_self, and_true, true_and, List.map_cons, List.map_nil, List.cons_append, List.nil_append, List.append_nil, List.replicate_succ, List.replicate_zero, List.length_cons, List.length_nil, List.getElem?_cons_zero, List.getElem?_cons_succ, List.set_cons_zero, List.set_cons_succ, Option.bind_some, Option.bind_none, Option.map_some, Option.map_none, Nat.reduceSub, Nat.reduceAdd, Nat.sub_self, Nat.add_zero, Nat.zero_add, ite_true, ite_false, if_true, if_false, Bool.false_eq_true, reduceCtorEq, List.take_length, rcv_join, rcv_split, rcv_find, rcv_index, rcv_indexL, rcv_count, rcv_append, rcv_extend, eqF_pp, wp_eqI, b]
    rw [w_cons]
    try simp -implicitDefEqProofs only [↓w_bind, ↓w_inS, ↓w_inSb, ↓w_inSs, ↓wE_var, ↓wE_cst, ↓wE_glob, ↓wE_pr, ↓w_kAnd, ↓w_kOr, ↓wE_and, ↓wE_or, ↓wE_not, ↓w_kNot, ↓w_kIte, ↓wE_ite, ↓wE_chain, ↓w_kCh1, ↓w_kCh2, ↓w_kCh3, ↓wE_chain3, ↓w_kDh1, ↓w_kDh2, ↓w_kDh3, ↓w_kDh4, ↓w_kDh5, ↓wT_chain3, ↓wE_comp, ↓w_kComp0, ↓w_kComp2f, ↓w_kComp2t, ↓wE_call, ↓wE_meth, ↓w_kMe1, ↓w_kMe2, ↓wE_mcall, ↓w_kMc0, ↓w_kMc1, ↓wE_new, ↓wE_fld, ↓wEs_nil, ↓wEs_cons, ↓w_kEs1, ↓w_kEs2, ↓wT_and, ↓wT_or, ↓wT_not, ↓w_kTA, ↓w_kTO, ↓w_kTN, ↓wT_var, ↓wT_cst, ↓wT_pr, ↓wT_chain, ↓wT_call, ↓wT_meth, ↓wT_mcall, ↓wT_fld, ↓wC_nil, ↓wC_cons, ↓w_kC, ↓w_kCf2, ↓w_kCf3, ↓wS_expr, ↓wS_asg, ↓wS_asT, ↓w_kAsT, ↓wS_par, ↓w_kPar, ↓wS_setix, ↓w_kSx1, ↓w_kSx2, ↓w_kSx3, ↓wS_setix2, ↓w_kSy1, ↓w_kSy2, ↓w_kSy3, ↓wS_setf, ↓w_kSf1, ↓w_kSf2, ↓wS_aug, ↓w_kAu, ↓wS_ret, ↓wS_retN, ↓wS_ifs, ↓w_kIf, ↓wS_for, ↓w_kFor, ↓wS_whl, ↓wS_brk, ↓wS_cnt, ↓wS_pass, ↓wS_raise, ↓wS_thru, ↓w_itN, ↓w_itP, ↓w_truU, ↓w_truL, ↓w_p1, ↓w_p1l, ↓w_p2, ↓w_p2l, ↓w_p2r, ↓w_eq, ↓w_ne, ↓w_eql, ↓w_nel, ↓w_tup, ↓w_lst, ↓w_lstT, ↓w_frUs0, ↓w_frUs1, ↓w_frUsL, wp_ok, wp_okP, wp_bad, wp_ite, wp_nxt, wp_rdp, wp_frp, wp_some, wp_finp, wp_newU, wp_rdl', wp_setix, wp_setf, wp_updL, wp_guard, kB_ap, kM_ap, kS_nx, kS_rt, kS_bk, kS_ct, kS_ex, kX_ap, kF_rt, kF_nx, kF_ex, oW_s, oW_n, oW_i, prE, bindA, Dfl.w, kCall, kMc2, kNew, truW, tagW, subT, addW, subW, modW, cmpW, ixW, lenW, seqW, isNon, boolsW, MO.frz, fldU, augM, augW, oB, oI, setsL, slW, wp_optI, itemsW, mulW_l', mulW_r', wp_eqI, bnd_nm, bnd_2, bnd_3, bnd_4, wipeL, ix20, ix21, ix30, ix31, ix32, List.any_cons, List.any_nil, String.reduceBEq, Bool.or_false, Bool.or_true, Bool.false_or, Bool.true_or, Bool.and_false, Bool.and_true, Bool.false_and, Bool.true_and, Bool.not_true, Bool.not_false, beq_self_eq_true, Int.reduceLT, Int.reduceLE, Int.reduceEq, Nat.reduceLT, Nat.reduceLeDiff, Nat.reduceEqDiff, decide_true, decide_false, decide_eq_true_eq, and_self, and_true, true_and, List.map_cons, List.map_nil, List.cons_append, List.nil_append, List.append_nil, List.replicate_succ, List.replicate_zero, List.length_cons, List.length_nil, List.getElem?_cons_zero, List.getElem?_cons_succ, List.set_cons_zero, List.set_cons_succ, Option.bind_some, Option.bind_none, Option.map_some, Option.map_none, Nat.reduceSub, Nat.reduceAdd, Nat.sub_self, Nat.add_zero, Nat.zero_add, ite_true, ite_false, if_true, if_false, Bool.false_eq_true, reduceCtorEq, List.take_length, rcv_join, rcv_split, rcv_find, rcv_index, rcv_indexL, rcv_count, rcv_append, rcv_extend, eqF_pp, st, pr0]
    rw [wp_nil, kS_nx]
    exact fin _ p2'
  · have b : (t == 0) = false := by simpa using ht
    try simp -implicitDefEqProofs only [↓w_bind, ↓w_inS, ↓w_inSb, ↓w_inSs, ↓wE_var, ↓wE_cst, ↓wE_glob, ↓wE_pr, ↓w_kAnd, ↓w_kOr, ↓wE_and, ↓wE_or, ↓wE_not, ↓w_kNot, ↓w_kIte, ↓wE_ite, ↓wE_chain, ↓w_kCh1, ↓w_kCh2, ↓w_kCh3, ↓wE_chain3, ↓w_kDh1, ↓w_kDh2, ↓w_kDh3, ↓w_kDh4, ↓w_kDh5, ↓wT_chain3, ↓wE_comp, ↓w_kComp0, ↓w_kComp2f, ↓w_kComp2t, ↓wE_call, ↓wE_meth, ↓w_kMe1, ↓w_kMe2, ↓wE_mcall, ↓w_kMc0, ↓w_kMc1, ↓wE_new, ↓wE_fld, ↓wEs_nil, ↓wEs_cons, ↓w_kEs1, ↓w_kEs2, ↓wT_and, ↓wT_or, ↓wT_not, ↓w_kTA, ↓w_kTO, ↓w_kTN, ↓wT_var, ↓wT_cst, ↓wT_pr, ↓wT_chain, ↓wT_call, ↓wT_meth, ↓wT_mcall, ↓wT_fld, ↓wC_nil, ↓wC_cons, ↓w_kC, ↓w_kCf2, ↓w_kCf3, ↓wS_expr, ↓wS_asg, ↓wS_asT, ↓w_kAsT, ↓wS_par, ↓w_kPar, ↓wS_setix, ↓w_kSx1, ↓w_kSx2, ↓w_kSx3, ↓wS_setix2, ↓w_kSy1, ↓w_kSy2, ↓w_kSy3, ↓wS_setf, ↓w_kSf1, ↓w_kSf2, ↓wS_aug, ↓w_kAu, ↓wS_ret, ↓wS_retN, ↓wS_ifs, ↓w_kIf, ↓wS_for, ↓w_kFor, ↓wS_whl, ↓wS_brk, ↓wS_cnt, ↓wS_pass, ↓wS_raise, ↓wS_thru, ↓w_itN, ↓w_itP, ↓w_truU, ↓w_truL, ↓w_p1, ↓w_p1l, ↓w_p2, ↓w_p2l, ↓w_p2r, ↓w_eq, ↓w_ne, ↓w_eql, ↓w_nel, ↓w_tup, ↓w_lst, ↓w_lstT, ↓w_frUs0, ↓w_frUs1, ↓w_frUsL, wp_ok, wp_okP, wp_bad, wp_ite, wp_nxt, wp_rdp, wp_frp, wp_some, wp_finp, wp_newU, wp_rdl', wp_setix, wp_setf, wp_updL, wp_guard, kB_ap, kM_ap, kS_nx, kS_rt, kS_bk, kS_ct, kS_ex, kX_ap, kF_rt, kF_nx, kF_ex, oW_s, oW_n, oW_i, prE, bindA, Dfl.w, kCall, kMc2, kNew, truW, tagW, subT, addW, subW, modW, cmpW, ixW, lenW, seqW, isNon, boolsW, MO.frz, fldU, augM, augW, oB, oI, setsL, slW, wp_optI, itemsW, mulW_l', mulW_r', wp_eqI, bnd_nm, bnd_2, bnd_3, bnd_4, wipeL, ix20, ix21, ix30, ix31, ix32, List.any_cons, List.any_nil, String.reduceBEq, Bool.or_false, Bool.or_true, Bool.false_or, Bool.true_or, Bool.and_false, Bool.and_true, Bool.false_and, Bool.true_and, Bool.not_true, Bool.not_false, beq_self_eq_true, Int.reduceLT, Int.reduceLE, Int.reduceEq, Nat.reduceLT, Nat.reduceLeDiff, Nat.reduceEqDiff, decide_true, decide_false, decide_eq_true_eq, and_self, and_true, true_and, List.map_cons, List.map_nil, List.cons_append, List.nil_append, List.append_nil, List.replicate_succ, List.replicate_zero, List.length_cons, List.length_nil, List.getElem?_cons_zero, List.getElem?_cons_succ, List.set_cons_zero, List.set_cons_succ, Option.bind_some, Option.bind_none, Option.map_some, Option.map_none, Nat.reduceSub, Nat.reduceAdd, Nat.sub_self, Nat.add_zero, Nat.zero_add, ite_true, ite_false, if_true, if_false, Bool.false_eq_true, reduceCtorEq, List.take_length, rcv_join, rcv_split, rcv_find, rcv_index, rcv_indexL, rcv_count, rcv_append, rcv_extend, eqF_pp, wp_eqI, b]
    rw [wp_nil, kS_nx]
    exact fin _ p2'
theorem law_key {k : Nat} {ns : List Int} (S0 : Sto) : Wp (callM P (k + 7) "law" [.p (.lst (iW ns))]) (fun u _ => u = .p (.bl true)) noE S0 := by
  refine w_call fn_law rfl ?_
  simp only [b_law]
  have r0 := ring_new0 (k := k + 3) (w := P.wh) (gl := P.glob) (n := 3) (ls := []) (ws := []) (by decide) (by decide) trivial trivial
  have r1 := ring_newP (k := k + 3) (w := P.wh) (gl := P.glob) (n := 3) (ls := []) (ws := []) (ps := [1, 1, 1]) (by decide) (by decide) trivial trivial rfl (by decide)
  have r2 := ring_newP (k := k + 3) (w := P.wh) (gl := P.glob) (n := 3) (ls := []) (ws := []) (ps := [1, 1, 2]) (by decide) (by decide) trivial trivial rfl (by decide)
  have a1 : callM P (k + 6) "_law_alike" [.p (ringW 3 [] [] (iW (List.replicate (3 : Int).toNat 1))), .p (ringW 3 [] [] (iW [1, 1, 1])), .p (.bl true)] = okP (.bl true) := law_alike_eq (k := k + 5) (cmp_ring (k := k + 4) (by decide))
  have a2 : callM P (k + 6) "_law_alike" [.p (ringW 3 [] [] (iW (List.replicate (3 : Int).toNat 1))), .p (ringW 3 [] [] (iW [1, 1, 2])), .p (.bl false)] = okP (.bl true) := law_alike_eq (k := k + 5) (cmp_ring (k := k + 4) (by decide))
  simp only [iW, List.map_cons, List.map_nil] at r0 r1 r2 a1 a2
  try simp -implicitDefEqProofs only [↓w_bind, ↓w_inS, ↓w_inSb, ↓w_inSs, ↓w_cons, ↓wp_nil, ↓wE_var, ↓wE_cst, ↓wE_glob, ↓wE_pr, ↓w_kAnd, ↓w_kOr, ↓wE_and, ↓wE_or, ↓wE_not, ↓w_kNot, ↓w_kIte, ↓wE_ite, ↓wE_chain, ↓w_kCh1, ↓w_kCh2, ↓w_kCh3, ↓wE_chain3, ↓w_kDh1, ↓w_kDh2, ↓w_kDh3, ↓w_kDh4, ↓w_kDh5, ↓wT_chain3, ↓wE_comp, ↓w_kComp0, ↓w_kComp2f, ↓w_kComp2t, ↓wE_call, ↓wE_meth, ↓w_kMe1, ↓w_kMe2, ↓wE_mcall, ↓w_kMc0, ↓w_kMc1, ↓wE_new, ↓wE_fld, ↓wEs_nil, ↓wEs_cons, ↓w_kEs1, ↓w_kEs2, ↓wT_and, ↓wT_or, ↓wT_not, ↓w_kTA, ↓w_kTO, ↓w_kTN, ↓wT_var, ↓wT_cst, ↓wT_pr, ↓wT_chain, ↓wT_call, ↓wT_meth, ↓wT_mcall, ↓wT_fld, ↓wC_nil, ↓wC_cons, ↓w_kC, ↓w_kCf2, ↓w_kCf3, ↓wS_expr, ↓wS_asg, ↓wS_asT, ↓w_kAsT, ↓wS_par, ↓w_kPar, ↓wS_setix, ↓w_kSx1, ↓w_kSx2, ↓w_kSx3, ↓wS_setix2, ↓w_kSy1, ↓w_kSy2, ↓w_kSy3, ↓wS_setf, ↓w_kSf1, ↓w_kSf2, ↓wS_aug, ↓w_kAu, ↓wS_ret, ↓wS_retN, ↓wS_ifs, ↓w_kIf, ↓wS_for, ↓w_kFor, ↓wS_whl, ↓wS_brk, ↓wS_cnt, ↓wS_pass, ↓wS_raise, ↓wS_thru, ↓w_itN, ↓w_itP, ↓w_truU, ↓w_truL, ↓w_p1, ↓w_p1l, ↓w_p2, ↓w_p2l, ↓w_p2r, ↓w_eq, ↓w_ne, ↓w_eql, ↓w_nel, ↓w_tup, ↓w_lst, ↓w_lstT, ↓w_frUs0, ↓w_frUs1, ↓w_frUsL, wp_ok, wp_okP, wp_bad, wp_ite, wp_nxt, wp_rdp, wp_frp, wp_some, wp_finp, wp_newU, wp_rdl', wp_setix, wp_setf, wp_updL, wp_guard, kB_ap, kM_ap, kS_nx, kS_rt, kS_bk, kS_ct, kS_ex, kX_ap, kF_rt, kF_nx, kF_ex, oW_s, oW_n, oW_i, prE, bindA, Dfl.w, kCall, kMc2, kNew, truW, tagW, subT, addW, subW, modW, cmpW, ixW, lenW, seqW, isNon, boolsW, MO.frz, fldU, augM, augW, oB, oI, setsL, slW, wp_optI, itemsW, mulW_l', mulW_r', wp_eqI, bnd_nm, bnd_2, bnd_3, bnd_4, wipeL, ix20, ix21, ix30, ix31, ix32, List.any_cons, List.any_nil, String.reduceBEq, Bool.or_false, Bool.or_true, Bool.false_or, Bool.true_or, Bool.and_false, Bool.and_true, Bool.false_and, Bool.true_and, Bool.not_true, Bool.not_false, beq_self_eq_true, Int.reduceLT, Int.reduceLE, Int.reduceEq, Nat.reduceLT, Nat.reduceLeDiff, Nat.reduceEqDiff, decide_true, decide_false, decide_eq_true_eq, and_self, and_true, true_and, List.map_cons, List.map_nil, List.cons_append, List.nil_append, List.append_nil, List.replicate_succ, List.replicate_zero, List.length_cons, List.length_nil, List.getElem?_cons_zero, List.getElem?_cons_succ, List.set_cons_zero, List.set_cons_succ, Option.bind_some, Option.bind_none, Option.map_some, Option.map_none, Nat.reduceSub, Nat.reduceAdd, Nat.sub_self, Nat.add_zero, Nat.zero_add, ite_true, ite_false, if_true, if_false, Bool.false_eq_true, reduceCtorEq, List.take_length, rcv_join, rcv_split, rcv_find, rcv_index, rcv_indexL, rcv_count, rcv_append, rcv_extend, eqF_pp, r0, r1, r2, a1, a2]
  generalize hg : (if (if (8 : Int) < (ns.length : Int) then (8 : Int) else (ns.length : Int)) > 2 then (if (8 : Int) < (ns.length : Int) then (8 : Int) else (ns.length : Int)) else 2) = m
  have h2 : 2 ≤ m ∧ m ≤ 8 := by
    subst hg
    split <;> split at * <;> omega
  have hl : line62 m = true := by simp [line62]; omega
  try simp -implicitDefEqProofs only [↓w_bind, ↓w_inS, ↓w_inSb, ↓w_inSs, ↓w_cons, ↓wp_nil, ↓wE_var, ↓wE_cst, ↓wE_glob, ↓wE_pr, ↓w_kAnd, ↓w_kOr, ↓wE_and, ↓wE_or, ↓wE_not, ↓w_kNot, ↓w_kIte, ↓wE_ite, ↓wE_chain, ↓w_kCh1, ↓w_kCh2, ↓w_kCh3, ↓wE_chain3, ↓w_kDh1, ↓w_kDh2, ↓w_kDh3, ↓w_kDh4, ↓w_kDh5, ↓wT_chain3, ↓wE_comp, ↓w_kComp0, ↓w_kComp2f, ↓w_kComp2t, ↓wE_call, ↓wE_meth, ↓w_kMe1, ↓w_kMe2, ↓wE_mcall, ↓w_kMc0, ↓w_kMc1, ↓wE_new, ↓wE_fld, ↓wEs_nil, ↓wEs_cons, ↓w_kEs1, ↓w_kEs2, ↓wT_and, ↓wT_or, ↓wT_not, ↓w_kTA, ↓w_kTO, ↓w_kTN, ↓wT_var, ↓wT_cst, ↓wT_pr, ↓wT_chain, ↓wT_call, ↓wT_meth, ↓wT_mcall, ↓wT_fld, ↓wC_nil, ↓wC_cons, ↓w_kC, ↓w_kCf2, ↓w_kCf3, ↓wS_expr, ↓wS_asg, ↓wS_asT, ↓w_kAsT, ↓wS_par, ↓w_kPar, ↓wS_setix, ↓w_kSx1, ↓w_kSx2, ↓w_kSx3, ↓wS_setix2, ↓w_kSy1, ↓w_kSy2, ↓w_kSy3, ↓wS_setf, ↓w_kSf1, ↓w_kSf2, ↓wS_aug, ↓w_kAu, ↓wS_ret, ↓wS_retN, ↓wS_ifs, ↓w_kIf, ↓wS_for, ↓w_kFor, ↓wS_whl, ↓wS_brk, ↓wS_cnt, ↓wS_pass, ↓wS_raise, ↓wS_thru, ↓w_itN, ↓w_itP, ↓w_truU, ↓w_truL, ↓w_p1, ↓w_p1l, ↓w_p2, ↓w_p2l, ↓w_p2r, ↓w_eq, ↓w_ne, ↓w_eql, ↓w_nel, ↓w_tup, ↓w_lst, ↓w_lstT, ↓w_frUs0, ↓w_frUs1, ↓w_frUsL, wp_ok, wp_okP, wp_bad, wp_ite, wp_nxt, wp_rdp, wp_frp, wp_some, wp_finp, wp_newU, wp_rdl', wp_setix, wp_setf, wp_updL, wp_guard, kB_ap, kM_ap, kS_nx, kS_rt, kS_bk, kS_ct, kS_ex, kX_ap, kF_rt, kF_nx, kF_ex, oW_s, oW_n, oW_i, prE, bindA, Dfl.w, kCall, kMc2, kNew, truW, tagW, subT, addW, subW, modW, cmpW, ixW, lenW, seqW, isNon, boolsW, MO.frz, fldU, augM, augW, oB, oI, setsL, slW, wp_optI, itemsW, mulW_l', mulW_r', wp_eqI, bnd_nm, bnd_2, bnd_3, bnd_4, wipeL, ix20, ix21, ix30, ix31, ix32, List.any_cons, List.any_nil, String.reduceBEq, Bool.or_false, Bool.or_true, Bool.false_or, Bool.true_or, Bool.and_false, Bool.and_true, Bool.false_and, Bool.true_and, Bool.not_true, Bool.not_false, beq_self_eq_true, Int.reduceLT, Int.reduceLE, Int.reduceEq, Nat.reduceLT, Nat.reduceLeDiff, Nat.reduceEqDiff, decide_true, decide_false, decide_eq_true_eq, and_self, and_true, true_and, List.map_cons, List.map_nil, List.cons_append, List.nil_append, List.append_nil, List.replicate_succ, List.replicate_zero, List.length_cons, List.length_nil, List.getElem?_cons_zero, List.getElem?_cons_succ, List.set_cons_zero, List.set_cons_succ, Option.bind_some, Option.bind_none, Option.map_some, Option.map_none, Nat.reduceSub, Nat.reduceAdd, Nat.sub_self, Nat.add_zero, Nat.zero_add, ite_true, ite_false, if_true, if_false, Bool.false_eq_true, reduceCtorEq, List.take_length, rcv_join, rcv_split, rcv_find, rcv_index, rcv_indexL, rcv_count, rcv_append, rcv_extend, eqF_pp, List.length_map, hg, hl]
  refine ⟨by simp [rng, bigLine]; omega, ?_⟩
  refine wp_compL (I := fun _ => True) (Y := fun _ y => y = .bl true) trivial (fun w hw S _ => ?_) fun ys S' _ hy hl => ?_
  · rw [rng_eq] at hw
    obtain ⟨p, hp, rfl⟩ := List.mem_map.mp hw
    have hi := Seg.rI_mem.mp hp
    rw [w_compF rfl]
    try simp -implicitDefEqProofs only [↓w_bind, ↓w_inS, ↓w_inSb, ↓w_inSs, ↓w_cons, ↓wp_nil, ↓wE_var, ↓wE_cst, ↓wE_glob, ↓wE_pr, ↓w_kAnd, ↓w_kOr, ↓wE_and, ↓wE_or, ↓wE_not, ↓w_kNot, ↓w_kIte, ↓wE_ite, ↓wE_chain, ↓w_kCh1, ↓w_kCh2, ↓w_kCh3, ↓wE_chain3, ↓w_kDh1, ↓w_kDh2, ↓w_kDh3, ↓w_kDh4, ↓w_kDh5, ↓wT_chain3, ↓wE_comp, ↓w_kComp0, ↓w_kComp2f, ↓w_kComp2t, ↓wE_call, ↓wE_meth, ↓w_kMe1, ↓w_kMe2, ↓wE_mcall, ↓w_kMc0, ↓w_kMc1, ↓wE_new, ↓wE_fld, ↓wEs_nil, ↓wEs_cons, ↓w_kEs1, ↓w_kEs2, ↓wT_and, ↓wT_or, ↓wT_not, ↓w_kTA, ↓w_kTO, ↓w_kTN, ↓wT_var, ↓wT_cst, ↓wT_pr, ↓wT_chain, ↓wT_call, ↓wT_meth, ↓wT_mcall, ↓wT_fld, ↓wC_nil, ↓wC_cons, ↓w_kC, ↓w_kCf2, ↓w_kCf3, ↓wS_expr, ↓wS_asg, ↓wS_asT, ↓w_kAsT, ↓wS_par, ↓w_kPar, ↓wS_setix, ↓w_kSx1, ↓w_kSx2, ↓w_kSx3, ↓wS_setix2, ↓w_kSy1, ↓w_kSy2, ↓w_kSy3, ↓wS_setf, ↓w_kSf1, ↓w_kSf2, ↓wS_aug, ↓w_kAu, ↓wS_ret, ↓wS_retN, ↓wS_ifs, ↓w_kIf, ↓wS_for, ↓w_kFor, ↓wS_whl, ↓wS_brk, ↓wS_cnt, ↓wS_pass, ↓wS_raise, ↓wS_thru, ↓w_itN, ↓w_itP, ↓w_truU, ↓w_truL, ↓w_p1, ↓w_p1l, ↓w_p2, ↓w_p2l, ↓w_p2r, ↓w_eq, ↓w_ne, ↓w_eql, ↓w_nel, ↓w_tup, ↓w_lst, ↓w_lstT, ↓w_frUs0, ↓w_frUs1, ↓w_frUsL, wp_ok, wp_okP, wp_bad, wp_ite, wp_nxt, wp_rdp, wp_frp, wp_some, wp_finp, wp_newU, wp_rdl', wp_setix, wp_setf, wp_updL, wp_guard, kB_ap, kM_ap, kS_nx, kS_rt, kS_bk, kS_ct, kS_ex, kX_ap, kF_rt, kF_nx, kF_ex, oW_s, oW_n, oW_i, prE, bindA, Dfl.w, kCall, kMc2, kNew, truW, tagW, subT, addW, subW, modW, cmpW, ixW, lenW, seqW, isNon, boolsW, MO.frz, fldU, augM, augW, oB, oI, setsL, slW, wp_optI, itemsW, mulW_l', mulW_r', wp_eqI, bnd_nm, bnd_2, bnd_3, bnd_4, wipeL, ix20, ix21, ix30, ix31, ix32, List.any_cons, List.any_nil, String.reduceBEq, Bool.or_false, Bool.or_true, Bool.false_or, Bool.true_or, Bool.and_false, Bool.and_true, Bool.false_and, Bool.true_and, Bool.not_true, Bool.not_false, beq_self_eq_true, Int.reduceLT, Int.reduceLE, Int.reduceEq, Nat.reduceLT, Nat.reduceLeDiff, Nat.reduceEqDiff, decide_true, decide_false, decide_eq_true_eq, and_self, and_true, true_and, List.map_cons, List.map_nil, List.cons_append, List.nil_append, List.append_nil, List.replicate_succ, List.replicate_zero, List.length_cons, List.length_nil, List.getElem?_cons_zero, List.getElem?_cons_succ, List.set_cons_zero, List.set_cons_succ, Option.bind_some, Option.bind_none, Option.map_some, Option.map_none, Nat.reduceSub, Nat.reduceAdd, Nat.sub_self, Nat.add_zero, Nat.zero_add, ite_true, ite_false, if_true, if_false, Bool.false_eq_true, reduceCtorEq, List.take_length, rcv_join, rcv_split, rcv_find, rcv_index, rcv_indexL, rcv_count, rcv_append, rcv_extend, eqF_pp]
    refine (law_cell_wp hi.1 (by omega)).mono (fun u S1 ⟨r, e, e2⟩ => ?_) fun _ _ _ z => z.elim
    subst e; subst e2
    try simp -implicitDefEqProofs only [↓w_bind, ↓w_inS, ↓w_inSb, ↓w_inSs, ↓w_cons, ↓wp_nil, ↓wE_var, ↓wE_cst, ↓wE_glob, ↓wE_pr, ↓w_kAnd, ↓w_kOr, ↓wE_and, ↓wE_or, ↓wE_not, ↓w_kNot, ↓w_kIte, ↓wE_ite, ↓wE_chain, ↓w_kCh1, ↓w_kCh2, ↓w_kCh3, ↓wE_chain3, ↓w_kDh1, ↓w_kDh2, ↓w_kDh3, ↓w_kDh4, ↓w_kDh5, ↓wT_chain3, ↓wE_comp, ↓w_kComp0, ↓w_kComp2f, ↓w_kComp2t, ↓wE_call, ↓wE_meth, ↓w_kMe1, ↓w_kMe2, ↓wE_mcall, ↓w_kMc0, ↓w_kMc1, ↓wE_new, ↓wE_fld, ↓wEs_nil, ↓wEs_cons, ↓w_kEs1, ↓w_kEs2, ↓wT_and, ↓wT_or, ↓wT_not, ↓w_kTA, ↓w_kTO, ↓w_kTN, ↓wT_var, ↓wT_cst, ↓wT_pr, ↓wT_chain, ↓wT_call, ↓wT_meth, ↓wT_mcall, ↓wT_fld, ↓wC_nil, ↓wC_cons, ↓w_kC, ↓w_kCf2, ↓w_kCf3, ↓wS_expr, ↓wS_asg, ↓wS_asT, ↓w_kAsT, ↓wS_par, ↓w_kPar, ↓wS_setix, ↓w_kSx1, ↓w_kSx2, ↓w_kSx3, ↓wS_setix2, ↓w_kSy1, ↓w_kSy2, ↓w_kSy3, ↓wS_setf, ↓w_kSf1, ↓w_kSf2, ↓wS_aug, ↓w_kAu, ↓wS_ret, ↓wS_retN, ↓wS_ifs, ↓w_kIf, ↓wS_for, ↓w_kFor, ↓wS_whl, ↓wS_brk, ↓wS_cnt, ↓wS_pass, ↓wS_raise, ↓wS_thru, ↓w_itN, ↓w_itP, ↓w_truU, ↓w_truL, ↓w_p1, ↓w_p1l, ↓w_p2, ↓w_p2l, ↓w_p2r, ↓w_eq, ↓w_ne, ↓w_eql, ↓w_nel, ↓w_tup, ↓w_lst, ↓w_lstT, ↓w_frUs0, ↓w_frUs1, ↓w_frUsL, wp_ok, wp_okP, wp_bad, wp_ite, wp_nxt, wp_rdp, wp_frp, wp_some, wp_finp, wp_newU, wp_rdl', wp_setix, wp_setf, wp_updL, wp_guard, kB_ap, kM_ap, kS_nx, kS_rt, kS_bk, kS_ct, kS_ex, kX_ap, kF_rt, kF_nx, kF_ex, oW_s, oW_n, oW_i, prE, bindA, Dfl.w, kCall, kMc2, kNew, truW, tagW, subT, addW, subW, modW, cmpW, ixW, lenW, seqW, isNon, boolsW, MO.frz, fldU, augM, augW, oB, oI, setsL, slW, wp_optI, itemsW, mulW_l', mulW_r', wp_eqI, bnd_nm, bnd_2, bnd_3, bnd_4, wipeL, ix20, ix21, ix30, ix31, ix32, List.any_cons, List.any_nil, String.reduceBEq, Bool.or_false, Bool.or_true, Bool.false_or, Bool.true_or, Bool.and_false, Bool.and_true, Bool.false_and, Bool.true_and, Bool.not_true, Bool.not_false, beq_self_eq_true, Int.reduceLT, Int.reduceLE, Int.reduceEq, Nat.reduceLT, Nat.reduceLeDiff, Nat.reduceEqDiff, decide_true, decide_false, decide_eq_true_eq, and_self, and_true, true_and, List.map_cons, List.map_nil, List.cons_append, List.nil_append, List.append_nil, List.replicate_succ, List.replicate_zero, List.length_cons, List.length_nil, List.getElem?_cons_zero, List.getElem?_cons_succ, List.set_cons_zero, List.set_cons_succ, Option.bind_some, Option.bind_none, Option.map_some, Option.map_none, Nat.reduceSub, Nat.reduceAdd, Nat.sub_self, Nat.add_zero, Nat.zero_add, ite_true, ite_false, if_true, if_false, Bool.false_eq_true, reduceCtorEq, List.take_length, rcv_join, rcv_split, rcv_find, rcv_index, rcv_indexL, rcv_count, rcv_append, rcv_extend, eqF_pp]
    refine (law_pool_wp).mono (fun u S1 ⟨x, y, z, e, e2⟩ => ?_) fun _ _ _ z => z.elim
    subst e; subst e2
    try simp -implicitDefEqProofs only [↓w_bind, ↓w_inS, ↓w_inSb, ↓w_inSs, ↓w_cons, ↓wp_nil, ↓wE_var, ↓wE_cst, ↓wE_glob, ↓wE_pr, ↓w_kAnd, ↓w_kOr, ↓wE_and, ↓wE_or, ↓wE_not, ↓w_kNot, ↓w_kIte, ↓wE_ite, ↓wE_chain, ↓w_kCh1, ↓w_kCh2, ↓w_kCh3, ↓wE_chain3, ↓w_kDh1, ↓w_kDh2, ↓w_kDh3, ↓w_kDh4, ↓w_kDh5, ↓wT_chain3, ↓wE_comp, ↓w_kComp0, ↓w_kComp2f, ↓w_kComp2t, ↓wE_call, ↓wE_meth, ↓w_kMe1, ↓w_kMe2, ↓wE_mcall, ↓w_kMc0, ↓w_kMc1, ↓wE_new, ↓wE_fld, ↓wEs_nil, ↓wEs_cons, ↓w_kEs1, ↓w_kEs2, ↓wT_and, ↓wT_or, ↓wT_not, ↓w_kTA, ↓w_kTO, ↓w_kTN, ↓wT_var, ↓wT_cst, ↓wT_pr, ↓wT_chain, ↓wT_call, ↓wT_meth, ↓wT_mcall, ↓wT_fld, ↓wC_nil, ↓wC_cons, ↓w_kC, ↓w_kCf2, ↓w_kCf3, ↓wS_expr, ↓wS_asg, ↓wS_asT, ↓w_kAsT, ↓wS_par, ↓w_kPar, ↓wS_setix, ↓w_kSx1, ↓w_kSx2, ↓w_kSx3, ↓wS_setix2, ↓w_kSy1, ↓w_kSy2, ↓w_kSy3, ↓wS_setf, ↓w_kSf1, ↓w_kSf2, ↓wS_aug, ↓w_kAu, ↓wS_ret, ↓wS_retN, ↓wS_ifs, ↓w_kIf, ↓wS_for, ↓w_kFor, ↓wS_whl, ↓wS_brk, ↓wS_cnt, ↓wS_pass, ↓wS_raise, ↓wS_thru, ↓w_itN, ↓w_itP, ↓w_truU, ↓w_truL, ↓w_p1, ↓w_p1l, ↓w_p2, ↓w_p2l, ↓w_p2r, ↓w_eq, ↓w_ne, ↓w_eql, ↓w_nel, ↓w_tup, ↓w_lst, ↓w_lstT, ↓w_frUs0, ↓w_frUs1, ↓w_frUsL, wp_ok, wp_okP, wp_bad, wp_ite, wp_nxt, wp_rdp, wp_frp, wp_some, wp_finp, wp_newU, wp_rdl', wp_setix, wp_setf, wp_updL, wp_guard, kB_ap, kM_ap, kS_nx, kS_rt, kS_bk, kS_ct, kS_ex, kX_ap, kF_rt, kF_nx, kF_ex, oW_s, oW_n, oW_i, prE, bindA, Dfl.w, kCall, kMc2, kNew, truW, tagW, subT, addW, subW, modW, cmpW, ixW, lenW, seqW, isNon, boolsW, MO.frz, fldU, augM, augW, oB, oI, setsL, slW, wp_optI, itemsW, mulW_l', mulW_r', wp_eqI, bnd_nm, bnd_2, bnd_3, bnd_4, wipeL, ix20, ix21, ix30, ix31, ix32, List.any_cons, List.any_nil, String.reduceBEq, Bool.or_false, Bool.or_true, Bool.false_or, Bool.true_or, Bool.and_false, Bool.and_true, Bool.false_and, Bool.true_and, Bool.not_true, Bool.not_false, beq_self_eq_true, Int.reduceLT, Int.reduceLE, Int.reduceEq, Nat.reduceLT, Nat.reduceLeDiff, Nat.reduceEqDiff, decide_true, decide_false, decide_eq_true_eq, and_self, and_true, true_and, List.map_cons, List.map_nil, List.cons_append, List.nil_append, List.append_nil, List.replicate_succ, List.replicate_zero, List.length_cons, List.length_nil, List.getElem?_cons_zero, List.getElem?_cons_succ, List.set_cons_zero, List.set_cons_succ, Option.bind_some, Option.bind_none, Option.map_some, Option.map_none, Nat.reduceSub, Nat.reduceAdd, Nat.sub_self, Nat.add_zero, Nat.zero_add, ite_true, ite_false, if_true, if_false, Bool.false_eq_true, reduceCtorEq, List.take_length, rcv_join, rcv_split, rcv_find, rcv_index, rcv_indexL, rcv_count, rcv_append, rcv_extend, eqF_pp]
    refine (law_right_wp ⟨x, y, z, app_get⟩).mono (fun u S1 e => ?_) fun _ _ _ z => z.elim
    subst e
    try simp -implicitDefEqProofs only [↓w_bind, ↓w_inS, ↓w_inSb, ↓w_inSs, ↓w_cons, ↓wp_nil, ↓wE_var, ↓wE_cst, ↓wE_glob, ↓wE_pr, ↓w_kAnd, ↓w_kOr, ↓wE_and, ↓wE_or, ↓wE_not, ↓w_kNot, ↓w_kIte, ↓wE_ite, ↓wE_chain, ↓w_kCh1, ↓w_kCh2, ↓w_kCh3, ↓wE_chain3, ↓w_kDh1, ↓w_kDh2, ↓w_kDh3, ↓w_kDh4, ↓w_kDh5, ↓wT_chain3, ↓wE_comp, ↓w_kComp0, ↓w_kComp2f, ↓w_kComp2t, ↓wE_call, ↓wE_meth, ↓w_kMe1, ↓w_kMe2, ↓wE_mcall, ↓w_kMc0, ↓w_kMc1, ↓wE_new, ↓wE_fld, ↓wEs_nil, ↓wEs_cons, ↓w_kEs1, ↓w_kEs2, ↓wT_and, ↓wT_or, ↓wT_not, ↓w_kTA, ↓w_kTO, ↓w_kTN, ↓wT_var, ↓wT_cst, ↓wT_pr, ↓wT_chain, ↓wT_call, ↓wT_meth, ↓wT_mcall, ↓wT_fld, ↓wC_nil, ↓wC_cons, ↓w_kC, ↓w_kCf2, ↓w_kCf3, ↓wS_expr, ↓wS_asg, ↓wS_asT, ↓w_kAsT, ↓wS_par, ↓w_kPar, ↓wS_setix, ↓w_kSx1, ↓w_kSx2, ↓w_kSx3, ↓wS_setix2, ↓w_kSy1, ↓w_kSy2, ↓w_kSy3, ↓wS_setf, ↓w_kSf1, ↓w_kSf2, ↓wS_aug, ↓w_kAu, ↓wS_ret, ↓wS_retN, ↓wS_ifs, ↓w_kIf, ↓wS_for, ↓w_kFor, ↓wS_whl, ↓wS_brk, ↓wS_cnt, ↓wS_pass, ↓wS_raise, ↓wS_thru, ↓w_itN, ↓w_itP, ↓w_truU, ↓w_truL, ↓w_p1, ↓w_p1l, ↓w_p2, ↓w_p2l, ↓w_p2r, ↓w_eq, ↓w_ne, ↓w_eql, ↓w_nel, ↓w_tup, ↓w_lst, ↓w_lstT, ↓w_frUs0, ↓w_frUs1, ↓w_frUsL, wp_ok, wp_okP, wp_bad, wp_ite, wp_nxt, wp_rdp, wp_frp, wp_some, wp_finp, wp_newU, wp_rdl', wp_setix, wp_setf, wp_updL, wp_guard, kB_ap, kM_ap, kS_nx, kS_rt, kS_bk, kS_ct, kS_ex, kX_ap, kF_rt, kF_nx, kF_ex, oW_s, oW_n, oW_i, prE, bindA, Dfl.w, kCall, kMc2, kNew, truW, tagW, subT, addW, subW, modW, cmpW, ixW, lenW, seqW, isNon, boolsW, MO.frz, fldU, augM, augW, oB, oI, setsL, slW, wp_optI, itemsW, mulW_l', mulW_r', wp_eqI, bnd_nm, bnd_2, bnd_3, bnd_4, wipeL, ix20, ix21, ix30, ix31, ix32, List.any_cons, List.any_nil, String.reduceBEq, Bool.or_false, Bool.or_true, Bool.false_or, Bool.true_or, Bool.and_false, Bool.and_true, Bool.false_and, Bool.true_and, Bool.not_true, Bool.not_false, beq_self_eq_true, Int.reduceLT, Int.reduceLE, Int.reduceEq, Nat.reduceLT, Nat.reduceLeDiff, Nat.reduceEqDiff, decide_true, decide_false, decide_eq_true_eq, and_self, and_true, true_and, List.map_cons, List.map_nil, List.cons_append, List.nil_append, List.append_nil, List.replicate_succ, List.replicate_zero, List.length_cons, List.length_nil, List.getElem?_cons_zero, List.getElem?_cons_succ, List.set_cons_zero, List.set_cons_succ, Option.bind_some, Option.bind_none, Option.map_some, Option.map_none, Nat.reduceSub, Nat.reduceAdd, Nat.sub_self, Nat.add_zero, Nat.zero_add, ite_true, ite_false, if_true, if_false, Bool.false_eq_true, reduceCtorEq, List.take_length, rcv_join, rcv_split, rcv_find, rcv_index, rcv_indexL, rcv_count, rcv_append, rcv_extend, eqF_pp]
    simp
  · obtain ⟨bs, e1, e2⟩ := all_true (l := ys) fun w hw => (hy w hw).choose_spec.2
    try simp -implicitDefEqProofs only [↓w_bind, ↓w_inS, ↓w_inSb, ↓w_inSs, ↓w_cons, ↓wp_nil, ↓wE_var, ↓wE_cst, ↓wE_glob, ↓wE_pr, ↓w_kAnd, ↓w_kOr, ↓wE_and, ↓wE_or, ↓wE_not, ↓w_kNot, ↓w_kIte, ↓wE_ite, ↓wE_chain, ↓w_kCh1, ↓w_kCh2, ↓w_kCh3, ↓wE_chain3, ↓w_kDh1, ↓w_kDh2, ↓w_kDh3, ↓w_kDh4, ↓w_kDh5, ↓wT_chain3, ↓wE_comp, ↓w_kComp0, ↓w_kComp2f, ↓w_kComp2t, ↓wE_call, ↓wE_meth, ↓w_kMe1, ↓w_kMe2, ↓wE_mcall, ↓w_kMc0, ↓w_kMc1, ↓wE_new, ↓wE_fld, ↓wEs_nil, ↓wEs_cons, ↓w_kEs1, ↓w_kEs2, ↓wT_and, ↓wT_or, ↓wT_not, ↓w_kTA, ↓w_kTO, ↓w_kTN, ↓wT_var, ↓wT_cst, ↓wT_pr, ↓wT_chain, ↓wT_call, ↓wT_meth, ↓wT_mcall, ↓wT_fld, ↓wC_nil, ↓wC_cons, ↓w_kC, ↓w_kCf2, ↓w_kCf3, ↓wS_expr, ↓wS_asg, ↓wS_asT, ↓w_kAsT, ↓wS_par, ↓w_kPar, ↓wS_setix, ↓w_kSx1, ↓w_kSx2, ↓w_kSx3, ↓wS_setix2, ↓w_kSy1, ↓w_kSy2, ↓w_kSy3, ↓wS_setf, ↓w_kSf1, ↓w_kSf2, ↓wS_aug, ↓w_kAu, ↓wS_ret, ↓wS_retN, ↓wS_ifs, ↓w_kIf, ↓wS_for, ↓w_kFor, ↓wS_whl, ↓wS_brk, ↓wS_cnt, ↓wS_pass, ↓wS_raise, ↓wS_thru, ↓w_itN, ↓w_itP, ↓w_truU, ↓w_truL, ↓w_p1, ↓w_p1l, ↓w_p2, ↓w_p2l, ↓w_p2r, ↓w_eq, ↓w_ne, ↓w_eql, ↓w_nel, ↓w_tup, ↓w_lst, ↓w_lstT, ↓w_frUs0, ↓w_frUs1, ↓w_frUsL, wp_ok, wp_okP, wp_bad, wp_ite, wp_nxt, wp_rdp, wp_frp, wp_some, wp_finp, wp_newU, wp_rdl', wp_setix, wp_setf, wp_updL, wp_guard, kB_ap, kM_ap, kS_nx, kS_rt, kS_bk, kS_ct, kS_ex, kX_ap, kF_rt, kF_nx, kF_ex, oW_s, oW_n, oW_i, prE, bindA, Dfl.w, kCall, kMc2, kNew, truW, tagW, subT, addW, subW, modW, cmpW, ixW, lenW, seqW, isNon, boolsW, MO.frz, fldU, augM, augW, oB, oI, setsL, slW, wp_optI, itemsW, mulW_l', mulW_r', wp_eqI, bnd_nm, bnd_2, bnd_3, bnd_4, wipeL, ix20, ix21, ix30, ix31, ix32, List.any_cons, List.any_nil, String.reduceBEq, Bool.or_false, Bool.or_true, Bool.false_or, Bool.true_or, Bool.and_false, Bool.and_true, Bool.false_and, Bool.true_and, Bool.not_true, Bool.not_false, beq_self_eq_true, Int.reduceLT, Int.reduceLE, Int.reduceEq, Nat.reduceLT, Nat.reduceLeDiff, Nat.reduceEqDiff, decide_true, decide_false, decide_eq_true_eq, and_self, and_true, true_and, List.map_cons, List.map_nil, List.cons_append, List.nil_append, List.append_nil, List.replicate_succ, List.replicate_zero, List.length_cons, List.length_nil, List.getElem?_cons_zero, List.getElem?_cons_succ, List.set_cons_zero, List.set_cons_succ, Option.bind_some, Option.bind_none, Option.map_some, Option.map_none, Nat.reduceSub, Nat.reduceAdd, Nat.sub_self, Nat.add_zero, Nat.zero_add, ite_true, ite_false, if_true, if_false, Bool.false_eq_true, reduceCtorEq, List.take_length, rcv_join, rcv_split, rcv_find, rcv_index, rcv_indexL, rcv_count, rcv_append, rcv_extend, eqF_pp, e1, e2]
theorem law_ok {k : Nat} {ns : List Int} (hn : ns.length ≤ 63) : ∃ S', callM P (k + 7) "law" [.p (.lst (iW ns))] [] = .ok (.p (.bl true)) S' := ok_of_key law_key []
end L_k05
end
set_option Elab.async false
set_option linter.all false
set_option maxHeartbeats 0
set_option maxRecDepth 100000
open PySem PySem.W PySem.Calls PyProof.Rows Pm
theorem PySem.Challenge.cw_copyring_k05_rings_compared_holds : PySem.Challenge.rw_copyring_k05_rings_compared.Holds := by
  w_on; o_law
  refine HandSHeadRun.head_any (r := OpenLaw.row PySem.Challenge.rw_copyring_k05_rings_compared) (q := view (OpenLaw.row PySem.Challenge.rw_copyring_k05_rings_compared).prog [35]) (H := L_k05.hk) (ob := L_k05.ob) (M := 6000) (loose := L_k05.loose_) (d := HandSHeadRun.topDef (OpenLaw.row PySem.Challenge.rw_copyring_k05_rings_compared).prog 35) (kwd := []) L_k05.ob_eq
    (by kernel_rfl) (fun s => by kernel_rfl) L_k05.run (by kernel_rfl) (by kernel_rfl) (by kernel_rfl) (by rfl) (by first | assumption | decide +kernel) (by decide +kernel) ⟨rfl, rfl, rfl, rfl, rfl, by decide +kernel⟩ ?hw ?hc
  case hw => w_witness2
  case hc =>
    exact law_of (g := L_k05.g) (l := PySem.Challenge.rw_copyring_k05_rings_compared) (n := 63) (k := 60) (x := "_law_script") (p := L_k05.p_law) L_k05.okAll L_k05.okT L_k05.okC rfl rfl rfl rfl rfl rfl (by decide +kernel) (by kernel_rfl) rfl (by decide) (by kernel_rfl) ⟨rfl, by decide +kernel, by decide +kernel⟩ fun ns h => L_k05.law_ok (k := 53) h
