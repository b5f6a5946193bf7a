import PyProof.Rows.All
import HandS.ForMost
import HandS.Deep
import HandS.SortInts
import HandS.Wide
import HandS.IsInst
import HandS.Text
import HandS.ExcOwn
import HandS.Flow
import HandS.Exc
import HandS.ExcField
import HandS.Walk
import HandS.Comp
import HandS.Iter
import HandS.Style
import KE.KExcIs
import HandS.Small
import HandS.ExcBuiltin
import HandS.ExcCtx
import HandS.HotCalls
import PyProof.Rows.StrIntSpec
import PyProof.FString3
import PyProof.EnumMake
import PyProof.Draws
import PyProof.Rows.StrCountLaw
import KE.GoesMore
import HandS.WideBits
import HandS.Conv
import HandS.FStr
import HandS.Strs
import HandS.SetFor
import HandS.ExcInit
import HandS.Defaults
import KE.KExcSuper
import HandS.Nested
import HandS.Head0
import HandS.Head1
import HandS.Head2
import HandS.HeadEnd
import HandS.HeadHook1
import HandS.HeadHook2
import HandS.HeadHook3
import HandS.HeadHook4
import PySem.Challenge.RW_rollstep_k03_bits
set_option Elab.async false
set_option linter.all false
set_option maxRecDepth 100000
/-! M0: a small language with plain values (no addresses), its interpreter, and the check that a piece of the row's text is that small text. -/
namespace MP
open PySem

/-! ### values -/
inductive PV where
  | non | bl (b : Bool) | int (i : Int) | str (s : Str)
  | tup (xs : List PV) | lst (xs : List PV)
  | scr (ns : List Int)
  | opq
  deriving Inhabited

mutual
/-- the data of a value -/
def toD : PV → PyData
  | .non => .none
  | .bl b => .bool b
  | .int i => .int i
  | .str s => .str s
  | .tup xs => .tuple (toDs xs)
  | .lst xs => .list (toDs xs)
  | .scr ns => .list (ns.map PyData.int)
  | .opq => .dict []
def toDs : List PV → List PyData
  | [] => []
  | x :: xs => toD x :: toDs xs
end

/-! ### the text -/
inductive Op2 | add | sub | mul | fdiv | mod | pow | shl | shr | band | bor
  deriving DecidableEq
inductive Cmp | eq | ne | lt | le | gt | ge | inn | nin | is_ | isnot
  deriving DecidableEq
inductive Ty | int | bool | str | tup | lst
  deriving DecidableEq
/-- what is done with values that are at hand -/
inductive Prim
  | op (o : Op2) | neg | cmp (c : Cmp)
  | ix
  | tup | lst
  | len | toInt | abs | toTup | toLst | sorted | min2 | max2 | isi (t : Ty)
  | bits | fmtB | rev | cnt (z : Str) | sset | lrng
  deriving DecidableEq

mutual
inductive E
  | var (i : Nat) | glb (g : Nat) | cst (c : PV)
  | prim (p : Prim) (es : Es)
  | not_ (a : E) | bop (conj : Bool) (es : Es)
  | chn (c c' : Cmp) (x y z : E)
  | call (f : Nat) (es : Es)
  | lc (elt : E) (tg : T) (it : I) (ifs : Es) (own : List Nat)
  | exf (i : Nat) (f : Str)
  | exi (i k : Nat)
  | exv (i : Nat)
  | chn3 (c c' c'' : Cmp) (x y z w : E)
  | slc (x : E) (lo hi : Es)
inductive Es
  | nil | cons (e : E) (es : Es)
inductive I
  | ex (e : E) | rng (es : Es) | enu (e : E)
inductive T
  | nm (i : Nat) | tup (ts : Ts)
inductive Ts
  | nil | cons (t : T) (ts : Ts)
end

mutual
inductive S
  | asg (t : T) (e : E)
  | par (is : List Nat) (es : Es)
  | setix (i : Nat) (ix e : E)
  | app (i : Nat) (e : E)
  | exp (e : E)
  | ifs (c : E) (t f : Ss)
  | whl (c : E) (b : Ss)
  | for_ (t : T) (it : I) (b : Ss)
  | ret (e : E) | ret0
  | raise (c : Nat) (e : E)
  | raise0 (c : Nat)
  | tryAs (b : Ss) (c : Nat) (i : Nat) (h : Ss)
  | brk | cnt
inductive Ss
  | nil | cons (s : S) (ss : Ss)
end

structure Fn where
  name : Str
  np : Nat
  locals : List Str
  body : Ss
/-- a class of errors: its name, its field, its bases among the classes -/
structure Cl where
  name : Str
  field : Str
  up : List Nat
structure Prog where
  fns : List Fn
  cls : List Cl
  glbs : List (Str × PV)

/-! ### states and outcomes -/
/-- what a name holds: the value; d > 0: the object is nobody else's; l: it is lent by the caller -/
structure Slot where
  v : PV
  d : Nat
  l : Bool
abbrev Env := List (Option Slot)
inductive Out (α : Type) where
  | ok (a : α) (s : Env) | exc (c : Nat) (v : PV) (s : Env) | stuck
def Out.bind {α β : Type} (x : Out α) (f : α → Env → Out β) : Out β :=
  match x with
  | .ok a s => f a s
  | .exc c v s => .exc c v s
  | .stuck => .stuck
/-- an argument: a name that holds its own object, or a value -/
inductive AV where
  | own (i : Nat) | val (v : PV) (d : Nat)
inductive CR where
  | ret (v : PV) (d : Nat) (ps : List (PV × Nat)) | exc (c : Nat) (v : PV) (ps : List (PV × Nat)) | stuck
inductive PRes where
  | old (v : PV) | newL (xs : List PV) | newT (xs : List PV)
inductive SO where
  | next (s : Env) | ret (v : PV) (d : Nat) (s : Env) | brk (s : Env) | cnt (s : Env) | exc (c : Nat) (v : PV) (s : Env) | stuck

@[irreducible] def bigN : Nat := 2 ^ (2 ^ 20)
def sizeMax : Nat := 1000000

/-! ### operations on values -/
def okD (x : PV) : Bool := SeqAt.shaped (toD x)
def peq (x y : PV) : Bool := PyData.eqv (toD x) (toD y)
def mulOk (i j : Int) : Bool := decide (i.natAbs.log2 + j.natAbs.log2 < 1000000)
def divOk (j : Int) : Bool := decide (0 < j) && decide (j.natAbs.log2 < 9000)
def op2 : Op2 → PV → PV → Option PRes
  | .add, .int i, .int j => some (.old (.int (i + j)))
  | .add, .str a, .str b => if a.length + b.length ≤ sizeMax then some (.old (.str (a ++ b))) else none
  | .add, .lst xs, .lst ys => if xs.length + ys.length ≤ sizeMax then some (.newL (xs ++ ys)) else none
  | .sub, .int i, .int j => some (.old (.int (i - j)))
  | .mul, .int i, .int j => if mulOk i j then some (.old (.int (i * j))) else none
  | .mul, .lst xs, .int k => if 0 ≤ k ∧ k < 2 ^ 62 ∧ xs.length * k.toNat ≤ sizeMax then some (.newL (List.replicate k.toNat xs).flatten) else none
  | .fdiv, .int i, .int j => if divOk j then some (.old (.int (i / j))) else none
  | .mod, .int i, .int j => if 0 < j then some (.old (.int (i % j))) else none
  | .pow, .int i, .int j => if 0 ≤ j ∧ j ≤ 1000000 ∧ i.natAbs < 2 ^ 64 then some (.old (.int (i ^ j.toNat))) else none
  | .shl, .int i, .int j => if 0 ≤ j ∧ j ≤ 1000000 ∧ i.natAbs < 2 ^ 64 then some (.old (.int (i * 2 ^ j.toNat))) else none
  | .shr, .int i, .int j => if 0 ≤ j then some (.old (.int (i / 2 ^ j.toNat))) else none
  | .band, .int i, .int j => some (.old (.int (Builtin.bitAnd i j)))
  | .bor, .int i, .int j => some (.old (.int (Builtin.bitOr i j)))
  | _, _, _ => none
/-- the values that 'in' looks at -/
def flatP : PV → Bool
  | .non | .bl _ | .int _ | .str _ => true
  | _ => false
def items : PV → Option (List PV)
  | .tup xs => some xs
  | .lst xs => some xs
  | .scr ns => some (ns.map PV.int)
  | _ => none
def intsOf : List PV → Option (List Int)
  | [] => some []
  | .int i :: r => (intsOf r).map (i :: ·)
  | _ => none
def cmp2 : Cmp → PV → PV → Option Bool
  | .eq, x, y => if okD x && okD y then some (peq x y) else none
  | .ne, x, y => if okD x && okD y then some (!peq x y) else none
  | .lt, .int i, .int j => some (decide (i < j))
  | .le, .int i, .int j => some (decide (i ≤ j))
  | .gt, .int i, .int j => some (decide (j < i))
  | .ge, .int i, .int j => some (decide (j ≤ i))
  | .inn, x, .lst ys => if okD x && okD (.lst ys) then some ((toDs ys).any fun z => PyData.eqv z (toD x)) else none
  | .nin, x, .lst ys => if okD x && okD (.lst ys) then some (!(toDs ys).any fun z => PyData.eqv z (toD x)) else none
  | .inn, .str a, .str z => match a.cps.toList with
    | [c] => some (decide (c ∈ z.cps.toList))
    | _ => none
  | .nin, .str a, .str z => match a.cps.toList with
    | [c] => some (!decide (c ∈ z.cps.toList))
    | _ => none
  | .inn, .int i, .tup ys => (intsOf ys).map fun ns => decide (i ∈ ns)
  | .nin, .int i, .tup ys => (intsOf ys).map fun ns => !decide (i ∈ ns)
  | .is_, x, .non => match x with | .non => some true | .opq => none | _ => some false
  | .isnot, x, .non => match x with | .non => some false | .opq => none | _ => some true
  | _, _, _ => none
def tyOf : PV → List Ty
  | .bl _ => [.int, .bool]
  | .int _ => [.int]
  | .str _ => [.str]
  | .tup _ => [.tup]
  | .lst _ => [.lst]
  | _ => []
/-- the place of an index -/
def place (n : Nat) (i : Int) : Option Nat :=
  if 0 ≤ i then (if i < n then some i.toNat else none) else (if -(n : Int) ≤ i then some (i + n).toNat else none)
def insSorted (x : Int) : List Int → List Int
  | [] => [x]
  | y :: ys => if x ≤ y then x :: y :: ys else y :: insSorted x ys
def isort : List Int → List Int
  | [] => []
  | x :: xs => insSorted x (isort xs)
def rngOk (n : Int) : Bool := decide (-(2 ^ 62) ≤ n) && decide (n < 2 ^ 62)
def rangeL (lo hi : Int) : List PV := (List.range (hi - lo).toNat).map fun (k : Nat) => PV.int (lo + k)
/-- an int's binary digits -/
def binS (n : Nat) : Str := ⟨((Nat.toDigits 2 n).map Char.toNat).toArray⟩
/-- the members, ascending -/
def insU (x : Int) : List Int → List Int
  | [] => [x]
  | y :: ys => if x < y then x :: y :: ys else if x = y then y :: ys else y :: insU x ys
def uset : List Int → List Int
  | [] => []
  | x :: xs => insU x (uset xs)
def prim : Prim → List PV → Option PRes
  | .op o, [x, y] => op2 o x y
  | .neg, [.int i] => some (.old (.int (-i)))
  | .cmp c, [x, y] => (cmp2 c x y).map fun b => .old (.bl b)
  | .ix, [.str z, .int i] => if z.length ≤ sizeMax then (place z.cps.toList.length i).bind fun k => z.cps.toList[k]?.map fun c => .old (.str ⟨#[c]⟩) else none
  | .ix, [x, .int i] => match items x with
    | some xs => (place xs.length i).bind fun k => xs[k]?.map .old
    | none => none
  | .tup, xs => if xs.length ≤ sizeMax then some (.newT xs) else none
  | .lst, xs => if xs.length ≤ sizeMax then some (.newL xs) else none
  | .len, [.str z] => if z.length ≤ sizeMax then some (.old (.int z.length)) else none
  | .len, [x] => match items x with
    | some xs => some (.old (.int xs.length))
    | none => none
  | .toInt, [.int i] => some (.old (.int i))
  | .toInt, [.bl b] => some (.old (.int (if b = true then 1 else 0)))
  | .abs, [.int i] => some (.old (.int i.natAbs))
  | .toLst, [x] => match items x with
    | some xs => some (.newL xs)
    | none => none
  | .toTup, [x] => match items x with
    | some xs => some (.newT xs)
    | none => none
  | .sorted, [.lst xs] => (intsOf xs).map fun ns => .newL ((isort ns).map PV.int)
  | .min2, [.int i, .int j] => some (.old (.int (min i j)))
  | .max2, [.int i, .int j] => some (.old (.int (max i j)))
  | .isi t, [x] => match x with
    | .scr _ => none
    | .opq => none
    | x => some (.old (.bl ((tyOf x).contains t)))
  | .bits, [.int i] => some (.old (.int (Builtin.Int.intBits i : Nat)))
  | .fmtB, [.int i] => if 0 ≤ i ∧ (binS i.natAbs).length ≤ sizeMax then some (.old (.str (binS i.natAbs))) else none
  | .rev, [.str z] => if z.length ≤ sizeMax then some (.old (.str ⟨z.cps.toList.reverse.toArray⟩)) else none
  | .cnt y, [.str z] => some (.old (.int (Txt.count z y)))
  | .sset, [.lst xs] => (intsOf xs).bind fun ns => if ns.length < 64 then some (.newL ((uset ns).map PV.int)) else none
  | .lrng, [.int a, .int b] => if rngOk a && rngOk b && decide ((b - a).toNat ≤ sizeMax) then some (.newL (rangeL a b)) else none
  | _, _ => none
/-- what holds its operands -/
def isDisp : Prim → Bool
  | .tup | .lst => true
  | _ => false
/-- what is not done within an except suite -/
def isNm : T → Bool
  | .nm _ => true
  | _ => false
def isRg1 : I → Bool
  | .rng (.cons _ .nil) => true
  | _ => false
/-- within an except suite a comprehension walks range(n) with a plain name -/
def lcBad (hx : Option (Nat × Nat × PV)) (tg : T) (it : I) (own : List Nat) : Bool := match hx with
  | some (j, _) => own.contains j || !isNm tg || !isRg1 it
  | none => false
def needsCalm : Prim → Bool
  | .min2 | .max2 | .sorted | .sset | .lrng => true
  | _ => false
def truth : PV → Option Bool
  | .non => some false
  | .bl b => some b
  | .int i => some (decide (i ≠ 0))
  | .lst xs => some (!xs.isEmpty)
  | .tup xs => some (!xs.isEmpty)
  | .scr xs => some (!xs.isEmpty)
  | _ => none
/-- what a for walks -/
def itemsI : PV → Option (List PV)
  | .str z => some (z.cps.toList.map fun c => .str ⟨#[c]⟩)
  | x => items x
/-- what enumerate walks -/
def itemsE : PV → Option (List PV)
  | .tup _ => none
  | x => itemsI x
/-- enumerate -/
def enumF (k : Int) : List PV → List PV
  | [] => []
  | x :: xs => .tup [.int k, x] :: enumF (k + 1) xs
def rngOk3 (a b c : Int) : Bool := decide (-(2 ^ 60) ≤ a ∧ a < 2 ^ 60 ∧ -(2 ^ 60) ≤ b ∧ b < 2 ^ 60 ∧ 0 < c ∧ c < 2 ^ 30)
def rcount (lo hi st : Int) : Nat := if lo < hi then ((hi - lo - 1) / st + 1).toNat else 0
def rangeS (lo hi st : Int) : List PV := (List.range (rcount lo hi st)).map fun (k : Nat) => PV.int (lo + k * st)
/-- a slice's ends -/
def sIx (n d : Nat) (x : Option Int) : Nat := match x with
  | none => d
  | some v => if v < 0 then (v + n).toNat else min v.toNat n
def cutL {α : Type} (xs : List α) (lo hi : Option Int) : List α := (xs.drop (sIx xs.length 0 lo)).take (sIx xs.length xs.length hi - sIx xs.length 0 lo)
def cutP (x : PV) (lo hi : Option Int) : Option PRes := match x with
  | .lst xs => some (.newL (cutL xs lo hi))
  | .str z => if z.length ≤ sizeMax then some (.old (.str (L2.cutS z lo hi))) else none
  | _ => none

/-! ### the interpreter -/
section
variable (P : Prog) (cf : Nat → List Slot → CR) (hx : Option (Nat × Nat × PV))

/-- except clauses: is the class c (or one above it) meant by k -/
def isUp (c k : Nat) : Bool := c == k || match P.cls[c]? with
  | some cl => cl.up.contains k
  | none => false
/-- a name's own object is from now on everybody's -/
def frz (env : Env) (i : Nat) : Env := match env[i]? with
  | some (some s) => env.set i (some { s with d := 0 })
  | _ => env
def resolve (env : Env) : AV → Option PV
  | .own i => match env[i]? with
    | some (some s) => if s.d ≤ 1 then some s.v else none
    | _ => none
  | .val v _ => some v
def resolves (env : Env) : List AV → Option (List PV)
  | [] => some []
  | a :: r => match resolve env a, resolves env r with
    | some v, some vs => some (v :: vs)
    | _, _ => none
/-- the arguments of a call: what is lent (it leaves the frame as long), what is handed over -/
def lend : Env → List AV → Option (List Slot × Env)
  | env, [] => some ([], env)
  | env, .own i :: r => match env[i]? with
    | some (some s) => match lend (env.set i none) r with
      | some (ss, e) => some (⟨s.v, s.d, true⟩ :: ss, e)
      | none => none
    | _ => none
  | env, .val v d :: r => match lend env r with
    | some (ss, e) => some (⟨v, d, false⟩ :: ss, e)
    | none => none
/-- what was lent comes back: o as it was, e what is left -/
def back (o : Env) : Env → List AV → List (PV × Nat) → Env
  | e, .own i :: r, p :: ps => (back o e r ps).set i (match o[i]? with
    | some (some s) => some ⟨p.1, p.2, s.l⟩
    | _ => none)
  | e, .val _ _ :: r, _ :: ps => back o e r ps
  | e, _, _ => e
def ofPRes : PRes → PV × Nat
  | .old v => (v, 0)
  | .newL xs => (.lst xs, 1)
  | .newT xs => (.tup xs, 0)
mutual
/-- the target takes a value (d: it is nobody else's) -/
def tgt : T → PV → Nat → Env → Option Env
  | .nm i, v, d, env => match env[i]? with
    | some (some s) => if s.l then none else some (env.set i (some ⟨v, d, false⟩))
    | some none => some (env.set i (some ⟨v, d, false⟩))
    | none => none
  | .tup ts, v, _, env => match v with
    | .tup xs => tgts ts xs env
    | _ => none
def tgts : Ts → List PV → Env → Option Env
  | .nil, [], env => some env
  | .cons t ts, x :: xs, env => match tgt t x 0 env with
    | some env' => tgts ts xs env'
    | none => none
  | _, _, _ => none
end
/-- a block's own names are forgotten -/
def wipeE (env : Env) : List Nat → Option Env
  | [] => some env
  | i :: r => match wipeE env r with
    | some e => match env[i]? with
      | some (some s) => if s.d = 0 ∧ s.l = false then some (e.set i none) else none
      | some none => some (e.set i none)
      | none => none
    | none => none
def clr (env : Env) : List Nat → Env
  | [] => env
  | i :: r => (clr env r).set i none
/-- and come back behind it -/
def unwipe (env new : Env) : List Nat → Env
  | [] => new
  | i :: r => (unwipe env new r).set i (env[i]?.getD none)
def noLent (as : List AV) (i : Nat) : Bool := as.all fun a => match a with
  | .own j => decide (j ≠ i)
  | _ => true
/-- what is taken as a value -/
def settle (a : AV) (env : Env) : Out PV := match a with
  | .val v _ => .ok v env
  | .own i => match env[i]? with
    | some (some s) => .ok s.v (frz env i)
    | _ => .stuck
def settles : List AV → Env → Option (List PV × Env)
  | [], env => some ([], env)
  | a :: as, env => match settle a env with
    | .ok v env => match settles as env with
      | some (vs, env) => some (v :: vs, env)
      | none => none
    | _ => none
/-- a comprehension's turns -/
def compLoop (step : PV → Env → Option (Option PV × Env)) : List PV → List PV → Env → Option (List PV × Env)
  | [], acc, env => some (acc, env)
  | x :: xs, acc, env => match step x env with
    | some (some y, e) => if acc.length < sizeMax then compLoop step xs (acc ++ [y]) e else none
    | some (none, e) => compLoop step xs acc e
    | none => none

mutual
/-- an operand: a name that holds its own object stays the name; m: only its truth is asked -/
def evA (m : Bool) : E → Env → Out AV
  | .var i, env => match env[i]? with
    | some (some s) => if s.d = 0 then .ok (.val s.v 0) env else .ok (.own i) env
    | _ => .stuck
  | .glb g, env => match P.glbs[g]? with
    | some (_, v) => .ok (.val v 0) env
    | none => .stuck
  | .cst c, env => .ok (.val c 0) env
  | .prim p es, env => if hx.isSome && needsCalm p then .stuck else (evAs es [] env).bind fun as env => match (if isDisp p then settles as env else (resolves env as).map fun vs => (vs, env)) with
    | some (vs, env) => match prim p vs with
      | some r => .ok (.val (ofPRes r).1 (ofPRes r).2) env
      | none => .stuck
    | none => .stuck
  | .not_ a, env => (evA m a env).bind fun v env => match (resolve env v).bind truth with
    | some b => .ok (.val (.bl (!b)) 0) env
    | none => .stuck
  | .bop conj es, env => evB m conj es env
  | .chn c c' x y z, env => (evA false x env).bind fun a env => (evA false y env).bind fun b env => match resolve env a, resolve env b with
    | some u, some v => match cmp2 c u v with
      | some true => (evA false z env).bind fun e env => match resolve env b, resolve env e with
        | some v, some w => match cmp2 c' v w with
          | some r => .ok (.val (.bl r) 0) env
          | none => .stuck
        | _, _ => .stuck
      | some false => .ok (.val (.bl false) 0) env
      | none => .stuck
    | _, _ => .stuck
  | .call f es, env => if hx.isSome then .stuck else (evAs es [] env).bind fun as env => match lend env as with
    | some (ss, e) => match cf f ss with
      | .ret v d ps => .ok (.val v d) (back env e as ps)
      | .exc c v ps => .exc c v (back env e as ps)
      | .stuck => .stuck
    | none => .stuck
  | .lc elt tg it ifs own, env => if lcBad hx tg it own then .stuck else (evI it env).bind fun xs env => match wipeE env own with
    | some env1 => match compLoop (fun x e => match tgt tg x 0 e with
        | some e => match evTs ifs e with
          | .ok true e => match evA false elt e with
            | .ok a e => match settle a e with
              | .ok v e => some (some v, clr e own)
              | _ => none
            | _ => none
          | .ok false e => some (none, clr e own)
          | _ => none
        | none => none) xs [] env1 with
      | some (ys, env2) => .ok (.val (.lst ys) 1) (unwipe env env2 own)
      | none => .stuck
    | none => .stuck
  | .exf i f, env => match hx with
    | some (j, c, v) => if i = j ∧ (P.cls[c]?.map (·.field)) = some f then .ok (.val v 0) env else .stuck
    | none => .stuck
  | .exi i k, env => match hx with
    | some (j, c, _) => if i = j ∧ c < P.cls.length ∧ k < P.cls.length then .ok (.val (.bl (isUp P c k)) 0) env else .stuck
    | none => .stuck
  | .exv i, env => match hx with
    | some (j, c, _) => if i = j ∧ c < P.cls.length then .ok (.val (.bl true) 0) env else .stuck
    | none => .stuck
  | .chn3 c c' c'' x y z w, env => (evA false x env).bind fun a env => (evA false y env).bind fun b env => match resolve env a, resolve env b with
    | some u, some v => match cmp2 c u v with
      | some true => (evA false z env).bind fun e env => match resolve env b, resolve env e with
        | some u, some v => match cmp2 c' u v with
          | some true => (evA false w env).bind fun g env => match resolve env e, resolve env g with
            | some u, some v => match cmp2 c'' u v with
              | some r => .ok (.val (.bl r) 0) env
              | none => .stuck
            | _, _ => .stuck
          | some false => .ok (.val (.bl false) 0) env
          | none => .stuck
        | _, _ => .stuck
      | some false => .ok (.val (.bl false) 0) env
      | none => .stuck
    | _, _ => .stuck
  | .slc x lo hi, env => (evA false x env).bind fun a env => (evP lo env).bind fun l env => (evP hi env).bind fun u env => match (resolve env a).bind fun v => cutP v l u with
    | some r => .ok (.val (ofPRes r).1 (ofPRes r).2) env
    | none => .stuck
/-- an end of a slice -/
def evP : Es → Env → Out (Option Int)
  | .nil, env => .ok none env
  | .cons e .nil, env => (evA false e env).bind fun a env => match resolve env a with
    | some (.int i) => .ok (some i) env
    | _ => .stuck
  | .cons _ (.cons _ _), _ => .stuck
/-- operands, from the left; a name that is lent already is frozen -/
def evAs : Es → List AV → Env → Out (List AV)
  | .nil, acc, env => .ok acc env
  | .cons e es, acc, env => (evA false e env).bind fun a env => match a with
    | .own i => if noLent acc i then evAs es (acc ++ [.own i]) env else match env[i]? with
      | some (some s) => evAs es (acc ++ [.val s.v 0]) (frz env i)
      | _ => .stuck
    | .val v d => evAs es (acc ++ [.val v d]) env
/-- and, or: as values; m: their truth -/
def evB (m conj : Bool) : Es → Env → Out AV
  | .nil, _ => .stuck
  | .cons e es, env => (evA m e env).bind fun a env => match es with
    | .nil => .ok a env
    | _ => match (resolve env a).bind truth with
      | some b => if b = conj then evB m conj es env else .ok (if m then .val (.bl b) 0 else a) env
      | none => .stuck
/-- what is walked -/
def evI : I → Env → Out (List PV)
  | .ex e, env => (evA false e env).bind fun a env => (settle a env).bind fun v env => match itemsI v with
    | some xs => .ok xs env
    | none => .stuck
  | .rng es, env => (evAs es [] env).bind fun as env => match resolves env as with
    | some [.int n] => if rngOk n then .ok (rangeL 0 n) env else .stuck
    | some [.int a, .int b] => if rngOk a && rngOk b then .ok (rangeL a b) env else .stuck
    | some [.int a, .int b, .int c] => if rngOk3 a b c then .ok (rangeS a b c) env else .stuck
    | _ => .stuck
  | .enu e, env => (evA false e env).bind fun a env => (settle a env).bind fun v env => match itemsE v with
    | some xs => .ok (enumF 0 xs) env
    | none => .stuck
/-- a comprehension's tests -/
def evTs : Es → Env → Out Bool
  | .nil, env => .ok true env
  | .cons e es, env => (evA true e env).bind fun a env => match (resolve env a).bind truth with
    | some b => if b then evTs es env else .ok false env
    | none => .stuck
end
/-- a test -/
def tst (e : E) (env : Env) : Out Bool := (evA P cf hx true e env).bind fun a env => match (resolve env a).bind truth with
  | some b => .ok b env
  | none => .stuck

/-! ### statements -/
def whileLoop (test : Env → Out Bool) (body : Env → SO) : Nat → Env → SO
  | 0, _ => .stuck
  | n + 1, env => match test env with
    | .ok true env => match body env with
      | .next env => whileLoop test body n env
      | .cnt env => whileLoop test body n env
      | .brk env => .next env
      | o => o
    | .ok false env => .next env
    | .exc c v env => .exc c v env
    | .stuck => .stuck
def forLoop (step : PV → Env → SO) : List PV → Env → SO
  | [], env => .next env
  | x :: xs, env => match step x env with
    | .next env => forLoop step xs env
    | .cnt env => forLoop step xs env
    | .brk env => .next env
    | o => o
def Out.then {α : Type} (x : Out α) (f : α → Env → SO) : SO :=
  match x with
  | .ok a s => f a s
  | .exc c v s => .exc c v s
  | .stuck => .stuck
/-- several names at once -/
def setAll : List Nat → List AV → Env → Option Env
  | [], [], env => some env
  | i :: is, a :: as, env => match settle a env with
    | .ok v env => match setAll is as env with
      | some env => tgt (.nm i) v 0 env
      | none => none
    | _ => none
  | _, _, _ => none
end

def isLst (env : Env) (i : Nat) : Bool := match env[i]? with
  | some (some s) => decide (s.d ≤ 1) && (match s.v with | .lst _ => true | _ => false)
  | _ => false
/-- behind an except suite its name is gone -/
def handled (i : Nat) : SO → SO
  | .next env => .next (env.set i none)
  | .ret v d env => .ret v d (env.set i none)
  | .brk env => .brk (env.set i none)
  | .cnt env => .cnt (env.set i none)
  | _ => .stuck
mutual
def exS (P : Prog) (cf : Nat → List Slot → CR) (hx : Option (Nat × Nat × PV)) : S → Env → SO
  | .asg t e, env => if hx.isSome && !isNm t then .stuck else (evA P cf hx false e env).then fun a env => match a with
    | .val v d => match tgt t v d env with
      | some env => .next env
      | none => .stuck
    | .own _ => (settle a env).then fun v env => match tgt t v 0 env with
      | some env => .next env
      | none => .stuck
  | .par is es, env => if hx.isSome then .stuck else (evAs P cf hx es [] env).then fun as env => match setAll is as env with
    | some env => .next env
    | none => .stuck
  | .setix i ix e, env => (evA P cf hx false e env).then fun a env => (settle a env).then fun v env => if !isLst env i then .stuck else (evA P cf hx false ix env).then fun b env => match resolve env b, env[i]? with
    | some (.int k), some (some s) => match s.d, s.v with
      | d + 1, .lst xs => match place xs.length k with
        | some j => .next (env.set i (some ⟨.lst (xs.set j v), 1, s.l⟩))
        | none => .stuck
      | _, _ => .stuck
    | _, _ => .stuck
  | .app i e, env => if !isLst env i then .stuck else (evA P cf hx false e env).then fun a env => (settle a env).then fun v env => match env[i]? with
    | some (some s) => match s.d, s.v with
      | d + 1, .lst xs => if xs.length < sizeMax then .next (env.set i (some ⟨.lst (xs ++ [v]), 1, s.l⟩)) else .stuck
      | _, _ => .stuck
    | _ => .stuck
  | .exp e, env => (evA P cf hx false e env).then fun _ env => .next env
  | .ifs c t f, env => (tst P cf hx c env).then fun b env => if b then exSs P cf hx t env else exSs P cf hx f env
  | .whl c b, env => if hx.isSome then .stuck else whileLoop (fun e => tst P cf hx c e) (fun e => exSs P cf hx b e) bigN env
  | .for_ t it b, env => if hx.isSome then .stuck else (evI P cf hx it env).then fun xs env => forLoop (fun x e => match tgt t x 0 e with
      | some e => exSs P cf hx b e
      | none => .stuck) xs env
  | .ret e, env => match e with
    | .var i => match env[i]? with
      | some (some s) => if s.l then .ret s.v 0 (frz env i) else .ret s.v s.d (env.set i none)
      | _ => .stuck
    | e => (evA P cf hx false e env).then fun a env => match a with
      | .val v d => .ret v d env
      | .own _ => (settle a env).then fun v env => .ret v 0 env
  | .ret0, env => .ret .non 0 env
  | .raise c e, env => if hx.isSome then .stuck else (evA P cf hx false e env).then fun a env => (settle a env).then fun v env => .exc c v env
  | .raise0 c, env => if hx.isSome then .stuck else .exc c .non env
  | .tryAs b k i h, env => if hx.isSome then .stuck else match exSs P cf hx b env with
    | .exc c v env => if P.cls.length ≤ c then .stuck else if isUp P c k then (match env[i]? with
        | some (some s) => if s.l ∨ s.d ≠ 0 then .stuck else handled i (exSs P cf (some (i, c, v)) h (env.set i (some ⟨.opq, 0, true⟩)))
        | some none => handled i (exSs P cf (some (i, c, v)) h (env.set i (some ⟨.opq, 0, true⟩)))
        | none => .stuck) else .exc c v env
    | o => o
  | .brk, env => .brk env
  | .cnt, env => .cnt env
def exSs (P : Prog) (cf : Nat → List Slot → CR) (hx : Option (Nat × Nat × PV)) : Ss → Env → SO
  | .nil, env => .next env
  | .cons s ss, env => match exS P cf hx s env with
    | .next env => exSs P cf hx ss env
    | o => o
end

def finals (n : Nat) (env : Env) : List (PV × Nat) := (List.range n).map fun i => match env[i]? with
  | some (some s) => (s.v, s.d)
  | _ => (.non, 0)
def finish (n : Nat) : SO → CR
  | .next env => .ret .non 0 (finals n env)
  | .ret v d env => .ret v d (finals n env)
  | .exc c v env => .exc c v (finals n env)
  | _ => .stuck
/-- a def of the text, at a depth -/
def callAt (P : Prog) : Nat → Nat → List Slot → CR
  | 0, _, _ => .stuck
  | k + 1, f, ss => match P.fns[f]? with
    | some fn => if ss.length = fn.np then finish fn.np (exSs P (callAt P k) none fn.body (ss.map some ++ List.replicate (fn.locals.length - fn.np) none)) else .stuck
    | none => .stuck
end MP
set_option Elab.async false
set_option linter.all false
set_option maxRecDepth 100000
/-! M1: how the plain values stand in the layer's heap: what is frozen (F), what is owned (cells). -/
namespace MP
open PySem L2

abbrev Fz := Addr → HO → Prop
abbrev Cells := List (Addr × HO)
def Fz.le (F F' : Fz) : Prop := ∀ a o, F a o → F' a o
theorem Fz.le.refl (F : Fz) : F.le F := fun _ _ h => h
theorem Fz.le.trans {F G H : Fz} (a : F.le G) (b : G.le H) : F.le H := fun x o h => b x o (a x o h)
def Fz.add (F : Fz) (cs : Cells) : Fz := fun a o => F a o ∨ (a, o) ∈ cs
theorem Fz.le.add {F : Fz} {cs : Cells} : F.le (F.add cs) := fun _ _ h => .inl h

/-! ### a value stands frozen at a V -/
mutual
def Rep (F : Fz) : PV → V → Prop
  | .non, v => v = .non
  | .bl b, v => v = .bl b
  | .int i, v => v = .int i
  | .str s, v => v = .str s
  | .tup xs, v => ∃ a vs, v = .ref a ∧ F a (.tup vs) ∧ RepL F xs vs
  | .lst xs, v => ∃ a vs, v = .ref a ∧ F a (.lst vs) ∧ RepL F xs vs
  | .scr ns, v => ∃ a ob, v = .ref a ∧ F a (.frz ob (.lst (ns.map V.int)))
  | .opq, v => ∃ a, v = .ref a
def RepL (F : Fz) : List PV → List V → Prop
  | [], vs => vs = []
  | x :: xs, vs => ∃ v r, vs = v :: r ∧ Rep F x v ∧ RepL F xs r
end
mutual
theorem Rep.mono {F F' : Fz} (h : F.le F') : ∀ (x : PV) (v : V), Rep F x v → Rep F' x v
  | .non, v, r => by simpa [Rep] using r
  | .bl b, v, r => by simpa [Rep] using r
  | .int i, v, r => by simpa [Rep] using r
  | .str s, v, r => by simpa [Rep] using r
  | .tup xs, v, r => by
    simp only [Rep] at r ⊢
    obtain ⟨a, vs, e, f, l⟩ := r
    exact ⟨a, vs, e, h _ _ f, RepL.mono h xs vs l⟩
  | .lst xs, v, r => by
    simp only [Rep] at r ⊢
    obtain ⟨a, vs, e, f, l⟩ := r
    exact ⟨a, vs, e, h _ _ f, RepL.mono h xs vs l⟩
  | .scr ns, v, r => by
    simp only [Rep] at r ⊢
    obtain ⟨a, ob, e, f⟩ := r
    exact ⟨a, ob, e, h _ _ f⟩
  | .opq, v, r => by simpa [Rep] using r
theorem RepL.mono {F F' : Fz} (h : F.le F') : ∀ (xs : List PV) (vs : List V), RepL F xs vs → RepL F' xs vs
  | [], vs, r => by simpa [RepL] using r
  | x :: xs, vs, r => by
    simp only [RepL] at r ⊢
    obtain ⟨v, s, e, a, b⟩ := r
    exact ⟨v, s, e, Rep.mono h x v a, RepL.mono h xs s b⟩
end
theorem RepL.length {F : Fz} : ∀ {xs : List PV} {vs : List V}, RepL F xs vs → vs.length = xs.length
  | [], vs, r => by simp only [RepL] at r; subst r; rfl
  | x :: xs, vs, r => by
    simp only [RepL] at r
    obtain ⟨v, s, rfl, a, b⟩ := r
    simp [RepL.length b]
theorem RepL.get {F : Fz} : ∀ {xs : List PV} {vs : List V} {i : Nat} {x : PV}, RepL F xs vs → xs[i]? = some x → ∃ v, vs[i]? = some v ∧ Rep F x v
  | [], vs, i, x, r, h => by simp at h
  | y :: xs, vs, i, x, r, h => by
    simp only [RepL] at r
    obtain ⟨v, s, rfl, a, b⟩ := r
    cases i with
    | zero => simp at h; subst h; exact ⟨v, by simp, a⟩
    | succ i => simpa using RepL.get (i := i) b (by simpa using h)
theorem RepL.append {F : Fz} : ∀ {xs ys : List PV} {vs us : List V}, RepL F xs vs → RepL F ys us → RepL F (xs ++ ys) (vs ++ us)
  | [], ys, vs, us, r, s => by simp only [RepL] at r; subst r; simpa using s
  | x :: xs, ys, vs, us, r, s => by
    simp only [RepL] at r
    obtain ⟨v, q, rfl, a, b⟩ := r
    show RepL F (x :: (xs ++ ys)) (v :: (q ++ us))
    simp only [RepL]
    exact ⟨v, _, rfl, a, RepL.append b s⟩
theorem RepL.nil {F : Fz} : RepL F [] [] := by simp [RepL]
theorem RepL.cons {F : Fz} {x : PV} {v : V} {xs : List PV} {vs : List V} (a : Rep F x v) (b : RepL F xs vs) : RepL F (x :: xs) (v :: vs) := by
  simp only [RepL]; exact ⟨v, vs, rfl, a, b⟩
theorem RepL.one {F : Fz} {x : PV} {v : V} (a : Rep F x v) : RepL F [x] [v] := .cons a .nil
theorem RepL.set {F : Fz} : ∀ {xs : List PV} {vs : List V} {x : PV} {v : V} (i : Nat), RepL F xs vs → Rep F x v → RepL F (xs.set i x) (vs.set i v)
  | [], vs, x, v, i, r, s => by simp only [RepL] at r; subst r; simp [RepL]
  | y :: xs, vs, x, v, i, r, s => by
    simp only [RepL] at r
    obtain ⟨w, q, rfl, a, b⟩ := r
    cases i with
    | zero => exact .cons s b
    | succ i => exact .cons a (RepL.set i b s)
theorem RepL.take {F : Fz} : ∀ {xs : List PV} {vs : List V} (n : Nat), RepL F xs vs → RepL F (xs.take n) (vs.take n)
  | [], vs, n, r => by simp only [RepL] at r; subst r; simp [RepL]
  | x :: xs, vs, n, r => by
    simp only [RepL] at r
    obtain ⟨w, q, rfl, a, b⟩ := r
    cases n with
    | zero => simp [RepL]
    | succ n => exact .cons a (RepL.take n b)
theorem RepL.drop {F : Fz} : ∀ {xs : List PV} {vs : List V} (n : Nat), RepL F xs vs → RepL F (xs.drop n) (vs.drop n)
  | [], vs, n, r => by simp only [RepL] at r; subst r; simp [RepL]
  | x :: xs, vs, n, r => by
    cases n with
    | zero => simpa using r
    | succ n =>
      simp only [RepL] at r
      obtain ⟨w, q, rfl, a, b⟩ := r
      exact RepL.drop n b
theorem RepL.ints {F : Fz} : ∀ (ns : List Int), RepL F (ns.map PV.int) (ns.map V.int)
  | [] => .nil
  | n :: ns => .cons (by simp [Rep]) (RepL.ints ns)

/-! ### a value stands at a V, its own objects in cells -/
def AllC (p : PV → V → Cells → Prop) : List PV → List V → Cells → Prop
  | [], vs, cs => vs = [] ∧ cs = []
  | x :: xs, vs, cs => ∃ v r c1 c2, vs = v :: r ∧ cs = c1 ++ c2 ∧ p x v c1 ∧ AllC p xs r c2
def Own (F : Fz) : Nat → PV → V → Cells → Prop
  | 0 => fun x v cs => cs = [] ∧ Rep F x v
  | d + 1 => fun x v cs => match x with
    | .lst xs => ∃ a vs c, v = .ref a ∧ cs = (a, .lst vs) :: c ∧ AllC (Own F d) xs vs c
    | x => cs = [] ∧ Rep F x v
theorem AllC.mono {p q : PV → V → Cells → Prop} (h : ∀ x v c, p x v c → q x v c) : ∀ {xs : List PV} {vs : List V} {cs : Cells}, AllC p xs vs cs → AllC q xs vs cs
  | [], _, _, r => r
  | x :: xs, _, _, r => by
    obtain ⟨v, s, c1, c2, e1, e2, a, b⟩ := r
    exact ⟨v, s, c1, c2, e1, e2, h _ _ _ a, AllC.mono h b⟩
theorem Own.mono {F F' : Fz} (h : F.le F') : ∀ (d : Nat) (x : PV) (v : V) (cs : Cells), Own F d x v cs → Own F' d x v cs
  | 0, x, v, cs, r => ⟨r.1, Rep.mono h _ _ r.2⟩
  | d + 1, x, v, cs, r => by
    cases x with
    | lst xs =>
      obtain ⟨a, vs, c, e1, e2, l⟩ := r
      exact ⟨a, vs, c, e1, e2, l.mono fun x v c => Own.mono h d x v c⟩
    | _ => exact ⟨r.1, Rep.mono h _ _ r.2⟩
theorem AllC.repL {F : Fz} {d : Nat} (h : ∀ (x : PV) (v : V) (cs : Cells) (F' : Fz), Own F d x v cs → F.le F' → (∀ p ∈ cs, F' p.1 p.2) → Rep F' x v) :
    ∀ {xs : List PV} {vs : List V} {cs : Cells} {F' : Fz}, AllC (Own F d) xs vs cs → F.le F' → (∀ p ∈ cs, F' p.1 p.2) → RepL F' xs vs
  | [], _, _, _, r, _, _ => by obtain ⟨rfl, _⟩ := r; exact .nil
  | x :: xs, _, _, _, r, hf, hc => by
    obtain ⟨v, s, c1, c2, rfl, rfl, a, b⟩ := r
    exact .cons (h x v c1 _ a hf fun p hp => hc p (List.mem_append_left _ hp)) (AllC.repL h b hf fun p hp => hc p (List.mem_append_right _ hp))
theorem Own.rep {F : Fz} : ∀ (d : Nat) (x : PV) (v : V) (cs : Cells) (F' : Fz), Own F d x v cs → F.le F' → (∀ p ∈ cs, F' p.1 p.2) → Rep F' x v
  | 0, x, v, cs, F', r, hf, hc => Rep.mono hf _ _ r.2
  | d + 1, x, v, cs, F', r, hf, hc => by
    cases x with
    | lst xs =>
      obtain ⟨a, vs, c, rfl, rfl, l⟩ := r
      simp only [Rep]
      exact ⟨a, vs, rfl, hc _ List.mem_cons_self, l.repL (fun x v cs F' => Own.rep d x v cs F') hf fun p hp => hc p (List.mem_cons_of_mem _ hp)⟩
    | _ => exact Rep.mono hf _ _ r.2

/-! ### roots -/
structure Root where
  x : PV
  d : Nat
  v : V
def Roots (F : Fz) : List Root → Cells → Prop
  | [], cs => cs = []
  | r :: R, cs => ∃ c1 c2, cs = c1 ++ c2 ∧ Own F r.d r.x r.v c1 ∧ Roots F R c2
theorem Roots.mono {F F' : Fz} (h : F.le F') : ∀ {R : List Root} {cs : Cells}, Roots F R cs → Roots F' R cs
  | [], _, r => r
  | r :: R, _, ⟨c1, c2, e, a, b⟩ => ⟨c1, c2, e, Own.mono h _ _ _ _ a, Roots.mono h b⟩
theorem Roots.perm {F : Fz} {R R' : List Root} (p : R.Perm R') : ∀ {cs : Cells}, Roots F R cs → ∃ cs', cs.Perm cs' ∧ Roots F R' cs' := by
  induction p with
  | nil => intro cs h; exact ⟨cs, .refl _, h⟩
  | cons r _ ih =>
    intro cs h
    obtain ⟨c1, c2, rfl, a, b⟩ := h
    obtain ⟨c3, q, l⟩ := ih b
    exact ⟨c1 ++ c3, List.Perm.append_left c1 q, c1, c3, rfl, a, l⟩
  | swap r s R =>
    intro cs h
    obtain ⟨c1, c2, rfl, a, c3, c4, rfl, b, c⟩ := h
    refine ⟨c3 ++ (c1 ++ c4), ?_, c3, c1 ++ c4, rfl, b, c1, c4, rfl, a, c⟩
    rw [← List.append_assoc, ← List.append_assoc]
    exact List.Perm.append_right c4 List.perm_append_comm
  | trans _ _ ih1 ih2 =>
    intro cs h
    obtain ⟨c1, q1, l1⟩ := ih1 h
    obtain ⟨c2, q2, l2⟩ := ih2 l1
    exact ⟨c2, q1.trans q2, l2⟩

/-! ### the frozen part holds -/
def HasH (H : Hp) (b : Addr) : HO → Prop
  | .frz _ u => Rd H b u
  | o => H b = some o
def HasK (K : PySem.W.Frag) (b : Addr) : HO → Prop
  | .frz _ (.lst xs) => SqL K (fun _ => none) b xs
  | .tup xs => SqT K (fun _ => none) b xs
  | _ => False
structure Fr (K : PySem.W.Frag) (F : Fz) (H : Hp) (cs : Cells) : Prop where
  has : ∀ b o, F b o → (HasH H b o ∧ b ∉ cs.map (·.1)) ∨ HasK K b o
  own : ∀ p ∈ cs, H p.1 = some p.2
  nd : (cs.map (·.1)).Nodup
def INV (K : PySem.W.Frag) (F : Fz) (R : List Root) (H : Hp) : Prop := ∃ cs, Roots F R cs ∧ Fr K F H cs

section
variable {K : PySem.W.Frag} {F F' : Fz} {R R' : List Root} {H : Hp} {cs : Cells}
theorem rd_none {b : Addr} {u : HO} : ¬ Rd (fun _ => none) b u := by
  rintro (h | ⟨o, h⟩) <;> cases h
theorem HasH.there {b : Addr} {o : HO} (h : HasH H b o) : ∃ u, H b = some u := by
  cases o <;> first | exact ⟨_, h⟩ | (rcases h with h | ⟨_, h⟩ <;> exact ⟨_, h⟩)
theorem HasH.upd {b p : Addr} {o u : HO} (h : HasH H b o) (n : b ≠ p) : HasH (upd H p u) b o := by
  cases o <;> first | exact (upd_ne n).trans h | (rcases h with h | ⟨_, h⟩ <;> first | exact .inl ((upd_ne n).trans h) | exact .inr ⟨_, (upd_ne n).trans h⟩)
theorem sqL_of {b : Addr} {xs : List V} (f : Fr K F H cs) (h : F b (.lst xs)) : H b = some (.lst xs) := by
  rcases f.has b _ h with ⟨h, _⟩ | h
  · exact h
  · exact h.elim
theorem sqS_of {b : Addr} {ob : Obj} {xs : List V} (f : Fr K F H cs) (h : F b (.frz ob (.lst xs))) : SqL K H b xs := by
  rcases f.has b _ h with ⟨h, _⟩ | h
  · exact .inl h
  · rcases h with h | h
    · exact (rd_none h).elim
    · exact .inr h
theorem sqT_of {b : Addr} {xs : List V} (f : Fr K F H cs) (h : F b (.tup xs)) : SqT K H b xs := by
  rcases f.has b _ h with ⟨h, _⟩ | h
  · exact .of h
  · rcases h with h | h
    · exact (rd_none h).elim
    · exact .inr h
theorem Fr.perm {cs' : Cells} (f : Fr K F H cs) (p : cs.Perm cs') : Fr K F H cs' :=
  ⟨fun b o h => (f.has b o h).imp (fun ⟨x, y⟩ => ⟨x, fun z => y ((p.map _).mem_iff.mpr z)⟩) id, fun q hq => f.own q (p.mem_iff.mpr hq), ((p.map _).nodup_iff).mp f.nd⟩
theorem INV.perm (i : INV K F R H) (p : R.Perm R') : INV K F R' H := by
  obtain ⟨cs, r, f⟩ := i
  obtain ⟨cs', q, r'⟩ := r.perm p
  exact ⟨cs', r', f.perm q⟩
theorem Fr.tail {c1 c2 : Cells} (f : Fr K F H (c1 ++ c2)) : Fr K F H c2 :=
  ⟨fun b o h => (f.has b o h).imp (fun ⟨x, y⟩ => ⟨x, fun z => y (by rw [List.map_append]; exact List.mem_append_right _ z)⟩) id, fun q hq => f.own q (List.mem_append_right _ hq),
    by have := f.nd; rw [List.map_append] at this; exact (List.nodup_append.mp this).2.1⟩
theorem INV.drop {r : Root} (i : INV K F (r :: R) H) : INV K F R H := by
  obtain ⟨cs, ⟨c1, c2, rfl, a, b⟩, f⟩ := i
  exact ⟨c2, b, f.tail⟩
theorem INV.drops : ∀ {R0 : List Root}, INV K F (R0 ++ R) H → INV K F R H
  | [], i => i
  | r :: R0, i => INV.drops (R0 := R0) (INV.drop i)
/-- the cells c1 are frozen -/
theorem Fr.freeze {c1 c2 : Cells} (f : Fr K F H (c1 ++ c2)) : Fr K (F.add c1) H c2 := by
  refine ⟨fun b o h => ?_, f.tail.own, f.tail.nd⟩
  rcases h with h | h
  · exact f.tail.has b o h
  · refine .inl ⟨?_, fun z => ?_⟩
    · have := f.own (b, o) (List.mem_append_left _ h)
      cases o <;> first | exact this | exact .inr ⟨_, this⟩
    · have := f.nd
      rw [List.map_append] at this
      exact (List.nodup_append.mp this).2.2 b (List.mem_map_of_mem (f := (·.1)) h) b z rfl
theorem INV.freeze {x : PV} {d : Nat} {v : V} (i : INV K F (⟨x, d, v⟩ :: R) H) : ∃ F', F.le F' ∧ Rep F' x v ∧ INV K F' (⟨x, 0, v⟩ :: R) H := by
  obtain ⟨cs, ⟨c1, c2, rfl, a, b⟩, f⟩ := i
  have r := Own.rep d x v c1 (F.add c1) a .add fun p hp => .inr hp
  exact ⟨F.add c1, .add, r, c2, ⟨[], c2, rfl, ⟨rfl, r⟩, b.mono .add⟩, f.freeze⟩
theorem INV.rep0 {x : PV} {v : V} (i : INV K F (⟨x, 0, v⟩ :: R) H) : Rep F x v := by
  obtain ⟨cs, ⟨c1, c2, rfl, a, b⟩, f⟩ := i
  exact a.2
theorem INV.add0 {x : PV} {v : V} (i : INV K F R H) (r : Rep F x v) : INV K F (⟨x, 0, v⟩ :: R) H := by
  obtain ⟨cs, a, f⟩ := i
  exact ⟨cs, ⟨[], cs, rfl, ⟨rfl, r⟩, a⟩, f⟩
/-- any depth may be given to what is frozen and no list -/
theorem Own.scalar {x : PV} {v : V} (r : Rep F x v) (h : ∀ xs, x ≠ .lst xs) : ∀ d, Own F d x v []
  | 0 => ⟨rfl, r⟩
  | d + 1 => by
    cases x <;> first | exact ⟨rfl, r⟩ | exact absurd rfl (h _)

/-- a new object that is nobody else's -/
theorem INV.newL {p : Addr} {vs : List V} {xs : List PV} (i : INV K F R H) (hp : H p = none) (l : RepL F xs vs) : INV K F (⟨.lst xs, 1, .ref p⟩ :: R) (upd H p (.lst vs)) := by
  obtain ⟨cs, a, f⟩ := i
  have np : p ∉ cs.map (·.1) := fun z => by
    obtain ⟨q, hq, e⟩ := List.mem_map.mp z
    have := f.own q hq
    rw [e, hp] at this; cases this
  refine ⟨(p, .lst vs) :: cs, ⟨[(p, .lst vs)], cs, rfl, ⟨p, vs, [], rfl, rfl, ?_⟩, a⟩, fun b o h => ?_, fun q hq => ?_, ?_⟩
  · clear f a
    induction xs generalizing vs with
    | nil => simp only [RepL] at l; exact ⟨l, rfl⟩
    | cons x xs ih =>
      simp only [RepL] at l
      obtain ⟨v, r, rfl, h1, h2⟩ := l
      exact ⟨v, r, [], [], rfl, rfl, ⟨rfl, h1⟩, ih h2⟩
  · rcases f.has b o h with ⟨x, y⟩ | h
    · obtain ⟨u, hu⟩ := x.there
      have nb : b ≠ p := ne_of_none hu hp
      refine .inl ⟨x.upd nb, fun z => ?_⟩
      rcases List.mem_cons.mp (show b ∈ p :: cs.map (·.1) from z) with z | z
      · exact nb z
      · exact y z
    · exact .inr h
  · rcases List.mem_cons.mp hq with e | hq
    · rw [e]; exact upd_same
    · have := f.own q hq
      exact (upd_ne (ne_of_none this hp)).trans this
  · exact List.nodup_cons.mpr ⟨np, f.nd⟩
/-- a new tuple -/
theorem INV.newT {p : Addr} {vs : List V} {xs : List PV} (i : INV K F R H) (hp : H p = none) (l : RepL F xs vs) : ∃ F', F.le F' ∧ INV K F' (⟨.tup xs, 0, .ref p⟩ :: R) (upd H p (.tup vs)) := by
  obtain ⟨cs, a, f⟩ := i
  refine ⟨F.add [(p, .tup vs)], .add, cs, ⟨[], cs, rfl, ⟨rfl, ?_⟩, a.mono .add⟩, fun b o h => ?_, fun q hq => ?_, f.nd⟩
  · simp only [Rep]
    exact ⟨p, vs, rfl, .inr List.mem_cons_self, RepL.mono .add _ _ l⟩
  · rcases h with h | h
    · rcases f.has b o h with ⟨x, y⟩ | h
      · obtain ⟨u, hu⟩ := x.there
        exact .inl ⟨x.upd (ne_of_none hu hp), y⟩
      · exact .inr h
    · have e : (b, o) = (p, .tup vs) := by simpa using h
      cases e
      refine .inl ⟨upd_same, fun z => ?_⟩
      obtain ⟨q, hq, e⟩ := List.mem_map.mp z
      have := f.own q hq
      rw [e, hp] at this; cases this
  · have := f.own q hq
    exact (upd_ne (ne_of_none this hp)).trans this
/-- an object of one's own: its place, its items -/
theorem INV.atL {xs : List PV} {d : Nat} {v : V} (i : INV K F (⟨.lst xs, d + 1, v⟩ :: R) H) : ∃ F', F.le F' ∧ INV K F' (⟨.lst xs, 1, v⟩ :: R) H ∧ ∃ a vs, v = .ref a ∧ H a = some (.lst vs) ∧ RepL F' xs vs := by
  obtain ⟨cs, ⟨c1, c2, rfl, ⟨a, vs, c, rfl, rfl, l⟩, b⟩, f⟩ := i
  have f' : Fr K F H (c ++ ((a, .lst vs) :: c2)) := f.perm (by
    show ((a, HO.lst vs) :: (c ++ c2)).Perm _
    exact List.perm_middle.symm)
  have fz := f'.freeze
  have lr : RepL (F.add c) xs vs := l.repL (fun x v cs F' => Own.rep d x v cs F') .add fun p hp => .inr hp
  refine ⟨F.add c, .add, ⟨(a, .lst vs) :: c2, ⟨[(a, .lst vs)], c2, rfl, ⟨a, vs, [], rfl, rfl, ?_⟩, b.mono .add⟩, fz⟩, a, vs, rfl, f.own _ List.mem_cons_self, lr⟩
  clear f f' fz l b
  induction xs generalizing vs with
  | nil => simp only [RepL] at lr; exact ⟨lr, rfl⟩
  | cons x xs ih =>
    simp only [RepL] at lr
    obtain ⟨v, r, rfl, h1, h2⟩ := lr
    exact ⟨v, r, [], [], rfl, rfl, ⟨rfl, h1⟩, ih _ h2⟩
/-- .. it is changed -/
theorem INV.setL {xs ys : List PV} {d : Nat} {a : Addr} {us : List V} (i : INV K F (⟨.lst xs, d + 1, .ref a⟩ :: R) H) (l : RepL F ys us) : INV K F (⟨.lst ys, 1, .ref a⟩ :: R) (upd H a (.lst us)) := by
  obtain ⟨cs, ⟨c1, c2, rfl, ⟨a', vs, c, e, rfl, l'⟩, b⟩, f⟩ := i
  cases e
  have f2 : Fr K F H ((a, .lst vs) :: c2) := by
    refine (f.perm (cs' := c ++ ((a, .lst vs) :: c2)) ?_).tail
    exact List.perm_middle.symm
  have na : a ∉ c2.map (·.1) := (List.nodup_cons.mp (show (a :: c2.map (·.1)).Nodup from f2.nd)).1
  refine ⟨(a, .lst us) :: c2, ⟨[(a, .lst us)], c2, rfl, ⟨a, us, [], rfl, rfl, ?_⟩, b⟩, fun b o h => ?_, fun q hq => ?_, f2.nd⟩
  · clear f f2 l' b
    induction ys generalizing us with
    | nil => simp only [RepL] at l; exact ⟨l, rfl⟩
    | cons x xs ih =>
      simp only [RepL] at l
      obtain ⟨v, r, rfl, h1, h2⟩ := l
      exact ⟨v, r, [], [], rfl, rfl, ⟨rfl, h1⟩, ih h2⟩
  · rcases f2.has b o h with ⟨x, y⟩ | h
    · have nb : b ≠ a := fun z => y (by rw [z]; exact List.mem_cons_self)
      exact .inl ⟨x.upd nb, y⟩
    · exact .inr h
  · rcases List.mem_cons.mp hq with e | hq
    · rw [e]; exact upd_same
    · have n : q.1 ≠ a := fun z => na (by rw [← z]; exact List.mem_map_of_mem (f := (·.1)) hq)
      exact (upd_ne n).trans (f2.own q (List.mem_cons_of_mem _ hq))
end

/-! ### what can be read -/
def Rdb (K : PySem.W.Frag) (F : Fz) (H : Hp) : PV → V → Prop
  | .lst xs, v => ∃ a vs, v = .ref a ∧ H a = some (.lst vs) ∧ RepL F xs vs
  | x, v => Rep F x v
def Rdbs (K : PySem.W.Frag) (F : Fz) (H : Hp) : List PV → List V → Prop
  | [], vs => vs = []
  | x :: xs, vs => ∃ v r, vs = v :: r ∧ Rdb K F H x v ∧ Rdbs K F H xs r
theorem Rdb.of {K : PySem.W.Frag} {F : Fz} {H : Hp} {cs : Cells} {x : PV} {v : V} (f : Fr K F H cs) (r : Rep F x v) : Rdb K F H x v := by
  cases x with
  | lst xs =>
    simp only [Rep] at r
    obtain ⟨a, vs, e, h, l⟩ := r
    exact ⟨a, vs, e, sqL_of f h, l⟩
  | _ => exact r
end MP
set_option Elab.async false
set_option linter.all false
set_option maxRecDepth 100000
set_option maxHeartbeats 1000000
/-! M2: what is done with values that are at hand, by the layer's rules. -/
namespace MP
open PySem L2

def PRok (F : Fz) (r : PRes) (H : Hp) (Q : VK) : Prop := match r with
  | .old x => ∀ u, Rep F x u → Q u H
  | .newL xs => ∀ p us, H p = none → RepL F xs us → Q (.ref p) (upd H p (.lst us))
  | .newT xs => (∀ p us, H p = none → RepL F xs us → Q (.ref p) (upd H p (.tup us))) ∧ ∀ u, Rep F (.tup xs) u → Q u H
def rSem (K : PySem.W.Frag) (p : Prim) : List V → Hp → VK → Prop := fun vs H Q =>
  ∃ F cs pvs r, Fr K F H cs ∧ Rdbs K F H pvs vs ∧ prim p pvs = some r ∧ PRok F r H Q
def rSem2 (K : PySem.W.Frag) (p : Prim) : R2 := fun x y H Q => rSem K p [x, y] H Q

section
variable {K : PySem.W.Frag} {F : Fz} {H : Hp} {cs : Cells}
mutual
theorem dp_rep (f : Fr K F H cs) : ∀ (x : PV) (v : V), (toD x).canLay0 = true → Rep F x v → Dp K H v (toD x)
  | .non, v, _, r => by simp only [Rep] at r; subst r; simp only [toD]; exact .non
  | .bl b, v, _, r => by simp only [Rep] at r; subst r; simp only [toD]; exact .bl b
  | .int i, v, _, r => by simp only [Rep] at r; subst r; simp only [toD]; exact .int i
  | .str s, v, _, r => by simp only [Rep] at r; subst r; simp only [toD]; exact .str s
  | .tup xs, v, c, r => by
    simp only [Rep] at r
    obtain ⟨a, vs, rfl, h, l⟩ := r
    simp only [toD] at c ⊢
    exact .tup (sqT_of f h) (dp_repL f xs vs (by simpa only [PyData.canLay0] using c) l)
  | .lst xs, v, c, r => by
    simp only [Rep] at r
    obtain ⟨a, vs, rfl, h, l⟩ := r
    simp only [toD] at c ⊢
    exact .lst (.of (sqL_of f h)) (dp_repL f xs vs (by simpa only [PyData.canLay0] using c) l)
  | .scr ns, v, c, r => by
    clear c
    simp only [Rep] at r
    obtain ⟨a, ob, rfl, h⟩ := r
    simp only [toD]
    refine .lst (sqS_of f h) ?_
    clear h
    induction ns with
    | nil => exact .nil
    | cons n ns ih => exact .cons (.int n) ih
  | .opq, v, c, r => by simp [toD, PyData.canLay0] at c
theorem dp_repL (f : Fr K F H cs) : ∀ (xs : List PV) (vs : List V), PyData.canLayAll0 (toDs xs) = true → RepL F xs vs → DpAll K H vs (toDs xs)
  | [], vs, _, r => by simp only [RepL] at r; subst r; simp only [toDs]; exact .nil
  | x :: xs, vs, c, r => by
    simp only [RepL] at r
    obtain ⟨v, s, rfl, a, b⟩ := r
    simp only [toDs, PyData.canLayAll0, Bool.and_eq_true] at c ⊢
    exact .cons (dp_rep f x v c.1 a) (dp_repL f xs s c.2 b)
end
theorem dp_rdb (f : Fr K F H cs) {x : PV} {v : V} (c : okD x = true) (r : Rdb K F H x v) : Dp K H v (toD x) := by
  have c := SeqAt.canLay_of_shaped c
  cases x with
  | lst xs =>
    obtain ⟨a, vs, rfl, h, l⟩ := r
    simp only [toD] at c ⊢
    exact .lst (.of h) (dp_repL f xs vs (by simpa only [PyData.canLay0] using c) l)
  | tup xs => exact dp_rep f _ _ c r
  | scr ns => exact dp_rep f _ _ c r
  | _ => exact dp_rep f _ _ c r
theorem rdbs2 {x y : PV} {u v : V} (h : Rdbs K F H [x, y] [u, v]) : Rdb K F H x u ∧ Rdb K F H y v := by
  obtain ⟨a, r, e, h1, b, r2, e2, h2, e3⟩ := h
  cases e; cases e2
  exact ⟨h1, h2⟩
theorem rdbs1 {x : PV} {u : V} (h : Rdbs K F H [x] [u]) : Rdb K F H x u := by
  obtain ⟨a, r, e, h1, e3⟩ := h
  cases e
  exact h1
theorem rdbs_len {pvs : List PV} {vs : List V} (h : Rdbs K F H pvs vs) : vs.length = pvs.length := by
  induction pvs generalizing vs with
  | nil => simp only [Rdbs] at h; subst h; rfl
  | cons x xs ih =>
    obtain ⟨v, r, rfl, _, h2⟩ := h
    simp [ih h2]
theorem rdbs_shape2 {pvs : List PV} {u v : V} (h : Rdbs K F H pvs [u, v]) : ∃ x y, pvs = [x, y] := by
  have e := rdbs_len h
  match pvs, e with
  | [x, y], _ => exact ⟨x, y, rfl⟩
/-- what is walked or measured -/
theorem items_of (f : Fr K F H cs) {x : PV} {xs : List PV} {v : V} (r : Rdb K F H x v) (h : items x = some xs) : ∃ a vs, v = .ref a ∧ (SqL K H a vs ∨ SqT K H a vs) ∧ RepL F xs vs := by
  cases x with
  | lst ys =>
    obtain ⟨a, vs, e, h1, l⟩ := r
    cases h
    exact ⟨a, vs, e, .inl (.of h1), l⟩
  | tup ys =>
    simp only [Rdb, Rep] at r
    obtain ⟨a, vs, e, h1, l⟩ := r
    cases h
    exact ⟨a, vs, e, .inr (sqT_of f h1), l⟩
  | scr ns =>
    simp only [Rdb, Rep] at r
    obtain ⟨a, ob, e, h1⟩ := r
    cases h
    exact ⟨a, _, e, .inl (sqS_of f h1), RepL.ints ns⟩
  | _ => cases h
end

/-! ### operators -/
def opOf : Op2 → Operator
  | .add => .Add | .sub => .Sub | .mul => .Mult | .fdiv => .FloorDiv | .mod => .Mod | .pow => .Pow | .shl => .LShift | .shr => .RShift | .band => .BitAnd | .bor => .BitOr
def cmpOf : Cmp → CmpOp
  | .eq => .Eq | .ne => .NotEq | .lt => .Lt | .le => .LtE | .gt => .Gt | .ge => .GtE | .inn => .In | .nin => .NotIn | .is_ => .Is | .isnot => .IsNot
section
variable {X : Cx}
theorem rep_int {F : Fz} {i : Int} {v : V} : Rep F (.int i) v ↔ v = .int i := by simp [Rep]
theorem rep_bl {F : Fz} {i : Bool} {v : V} : Rep F (.bl i) v ↔ v = .bl i := by simp [Rep]
theorem rep_str {F : Fz} {i : Str} {v : V} : Rep F (.str i) v ↔ v = .str i := by simp [Rep]
theorem rep_non {F : Fz} {v : V} : Rep F .non v ↔ v = .non := by simp [Rep]
theorem rdb_int {K : PySem.W.Frag} {F : Fz} {H : Hp} {i : Int} {v : V} (h : Rdb K F H (.int i) v) : v = .int i := rep_int.mp (show Rep F (.int i) v from h)
theorem rdb_bl {K : PySem.W.Frag} {F : Fz} {H : Hp} {i : Bool} {v : V} (h : Rdb K F H (.bl i) v) : v = .bl i := rep_bl.mp (show Rep F (.bl i) v from h)
theorem rdb_str {K : PySem.W.Frag} {F : Fz} {H : Hp} {i : Str} {v : V} (h : Rdb K F H (.str i) v) : v = .str i := rep_str.mp (show Rep F (.str i) v from h)
theorem rdb_non {K : PySem.W.Frag} {F : Fz} {H : Hp} {v : V} (h : Rdb K F H .non v) : v = .non := rep_non.mp (show Rep F .non v from h)
theorem op_sem (o : Op2) : OpR X (binaryOp (opOf o)) (rSem2 X.K (.op o)) := by
  intro pins s σ H u v uv vv Q I ru rv h
  obtain ⟨F, cs, pvs, r, f, rd, hp, q⟩ := h
  obtain ⟨x, y, rfl⟩ := rdbs_shape2 rd
  obtain ⟨rx, ry⟩ := rdbs2 rd
  simp only [prim] at hp
  cases o <;> cases x <;> cases y <;> simp only [op2] at hp <;> first
    | (cases hp; done)
    | skip
  case add.int.int i j =>
    cases hp
    obtain rfl := rdb_int rx
    obtain rfl := rdb_int ry
    exact op_add pins s σ H _ _ uv vv Q I ru rv ⟨i, j, rfl, rfl, q _ (rep_int.mpr rfl)⟩
  case add.str.str a b =>
    split at hp <;> cases hp
    obtain rfl := rdb_str rx
    obtain rfl := rdb_str ry
    rename_i hz
    exact op_add_str pins s σ H _ _ uv vv Q I ru rv ⟨a, b, rfl, rfl, Nat.le_trans hz (by decide), q _ (rep_str.mpr rfl)⟩
  case add.lst.lst a b =>
    split at hp <;> cases hp
    rename_i hz
    obtain ⟨p, vs, rfl, hp1, l1⟩ := rx
    obtain ⟨p2, us, rfl, hp2, l2⟩ := ry
    exact op_cat pins s σ H _ _ uv vv Q I ru rv ⟨p, p2, vs, us, rfl, rfl, hp1, hp2, by rw [l1.length, l2.length]; exact Nat.le_trans hz (by decide), fun n hn => q n _ hn (l1.append l2)⟩
  case sub.int.int i j =>
    cases hp
    obtain rfl := rdb_int rx
    obtain rfl := rdb_int ry
    exact op_sub pins s σ H _ _ uv vv Q I ru rv ⟨i, j, rfl, rfl, q _ (rep_int.mpr rfl)⟩
  case mul.int.int i j =>
    split at hp <;> cases hp
    obtain rfl := rdb_int rx
    obtain rfl := rdb_int ry
    rename_i hz
    exact op_mulW pins s σ H _ _ uv vv Q I ru rv ⟨i, j, rfl, rfl, (of_decide_eq_true hz : i.natAbs.log2 + j.natAbs.log2 < 1000000), q _ (rep_int.mpr rfl)⟩
  case mul.lst.int xs k =>
    split at hp <;> cases hp
    rename_i hz
    obtain ⟨k0, k1, k2⟩ := hz
    obtain ⟨p, vs, rfl, hp1, l1⟩ := rx
    obtain rfl := rdb_int ry
    refine op_rep pins s σ H _ _ uv vv Q I ru rv ⟨p, k, vs, rfl, rfl, hp1, by omega, by omega, by rw [l1.length]; exact Nat.le_trans k2 (by decide), fun n hn => q n _ hn ?_⟩
    generalize k.toNat = m
    induction m with
    | zero => exact (show ([] : List V) = [] from rfl)
    | succ m ih =>
      rw [List.replicate_succ, List.replicate_succ, List.flatten_cons, List.flatten_cons]
      exact l1.append ih
  case fdiv.int.int i j =>
    split at hp <;> cases hp
    obtain rfl := rdb_int rx
    obtain rfl := rdb_int ry
    rename_i hz
    have h2 := Bool.and_eq_true_iff.mp hz
    exact op_fdivW pins s σ H _ _ uv vv Q I ru rv ⟨i, j, rfl, rfl, ⟨of_decide_eq_true h2.1, of_decide_eq_true h2.2⟩, q _ (rep_int.mpr rfl)⟩
  case mod.int.int i j =>
    split at hp <;> cases hp
    obtain rfl := rdb_int rx
    obtain rfl := rdb_int ry
    rename_i hz
    exact op_mod pins s σ H _ _ uv vv Q I ru rv ⟨i, j, rfl, rfl, hz, q _ (rep_int.mpr rfl)⟩
  case pow.int.int i j =>
    split at hp <;> cases hp
    obtain rfl := rdb_int rx
    obtain rfl := rdb_int ry
    rename_i hz
    exact op_pow pins s σ H _ _ uv vv Q I ru rv ⟨i, j, rfl, rfl, hz, q _ (rep_int.mpr rfl)⟩
  case shl.int.int i j =>
    split at hp <;> cases hp
    obtain rfl := rdb_int rx
    obtain rfl := rdb_int ry
    rename_i hz
    exact op_shl pins s σ H _ _ uv vv Q I ru rv ⟨i, j, rfl, rfl, hz, q _ (rep_int.mpr rfl)⟩
  case shr.int.int i j =>
    split at hp <;> cases hp
    obtain rfl := rdb_int rx
    obtain rfl := rdb_int ry
    rename_i hz
    exact op_shr pins s σ H _ _ uv vv Q I ru rv ⟨i, j, rfl, rfl, hz, q _ (rep_int.mpr rfl)⟩
  case band.int.int i j =>
    cases hp
    obtain rfl := rdb_int rx
    obtain rfl := rdb_int ry
    exact op_and pins s σ H _ _ uv vv Q I ru rv ⟨i, j, rfl, rfl, q _ (rep_int.mpr rfl)⟩
  case bor.int.int i j =>
    cases hp
    obtain rfl := rdb_int rx
    obtain rfl := rdb_int ry
    exact op_or pins s σ H _ _ uv vv Q I ru rv ⟨i, j, rfl, rfl, q _ (rep_int.mpr rfl)⟩

theorem intsOf_eq : ∀ {xs : List PV} {ns : List Int}, intsOf xs = some ns → xs = ns.map PV.int
  | [], ns, h => by cases h; rfl
  | x :: xs, ns, h => by
    cases x <;> simp only [intsOf] at h <;> try (cases h; done)
    simp only [Option.map_eq_some_iff] at h
    obtain ⟨ms, h1, rfl⟩ := h
    rw [intsOf_eq h1]; rfl
theorem repL_ints {F : Fz} : ∀ {ns : List Int} {vs : List V}, RepL F (ns.map PV.int) vs → vs = ns.map V.int
  | [], vs, h => by simpa [RepL] using h
  | n :: ns, vs, h => by
    have h : RepL F (.int n :: ns.map PV.int) vs := h
    simp only [RepL] at h
    obtain ⟨v, r, rfl, h1, h2⟩ := h
    rw [repL_ints h2, rep_int.mp h1]; rfl
theorem inV_ints (i : Int) : ∀ ns : List Int, inV (.int i) (ns.map V.int) = decide (i ∈ ns)
  | [] => rfl
  | n :: ns => by
    have ih := inV_ints i ns
    unfold inV at ih ⊢
    rw [List.map_cons, List.any_cons, ih]
    by_cases h : i = n
    · subst h
      rw [show eqV (.int i) (.int i) = true by simp [eqV], decide_eq_true (List.mem_cons_self), Bool.true_or]
    · rw [show eqV (.int n) (.int i) = false by simp [eqV]; exact fun z => h z.symm, Bool.false_or]
      simp [h]
theorem flat_ints : ∀ ns : List Int, (ns.map V.int).all flatV = true
  | [] => rfl
  | n :: ns => by rw [List.map_cons, List.all_cons, flat_ints ns]; rfl
theorem rep_non_iff {K : PySem.W.Frag} {F : Fz} {H : Hp} {x : PV} {v : V} (r : Rdb K F H x v) {b : Bool} (h : cmp2 .is_ x .non = some b) : decide (v = V.non) = b := by
  cases x with
  | non => have e := rdb_non r; subst e; cases h; rfl
  | lst xs => obtain ⟨a, vs, rfl, _⟩ := r; cases h; rfl
  | tup xs => simp only [Rdb, Rep] at r; obtain ⟨a, vs, rfl, _⟩ := r; cases h; rfl
  | scr xs => simp only [Rdb, Rep] at r; obtain ⟨a, vs, rfl, _⟩ := r; cases h; rfl
  | bl b => have e := rdb_bl r; subst e; cases h; rfl
  | int b => have e := rdb_int r; subst e; cases h; rfl
  | str b => have e := rdb_str r; subst e; cases h; rfl
  | opq => cases h
theorem cmp_sem (hu : X.A.units + 65 < cLine) (c : Cmp) : OpR X (compareOp (cmpOf c)) (rSem2 X.K (.cmp c)) := by
  intro pins s σ H u v uv vv Q I ru rv h
  obtain ⟨F, cs, pvs, r, f, rd, hp, q⟩ := h
  obtain ⟨x, y, rfl⟩ := rdbs_shape2 rd
  obtain ⟨rx, ry⟩ := rdbs2 rd
  simp only [prim, Option.map_eq_some_iff] at hp
  obtain ⟨b, hb, rfl⟩ := hp
  have q : Q (.bl b) H := q _ (rep_bl.mpr rfl)
  cases c with
  | eq =>
    simp only [cmp2] at hb
    by_cases hz : (okD x && okD y) = true
    case neg => rw [if_neg hz] at hb; cases hb
    rw [if_pos hz] at hb
    cases hb
    have h2 := Bool.and_eq_true_iff.mp hz
    exact op_eqD (Nat.lt_of_succ_lt hu) pins s σ H _ _ uv vv Q I ru rv ⟨_, _, dp_rdb f h2.1 rx, dp_rdb f h2.2 ry, h2.1, h2.2, q⟩
  | ne =>
    simp only [cmp2] at hb
    by_cases hz : (okD x && okD y) = true
    case neg => rw [if_neg hz] at hb; cases hb
    rw [if_pos hz] at hb
    cases hb
    have h2 := Bool.and_eq_true_iff.mp hz
    exact op_neD (Nat.lt_of_succ_lt hu) pins s σ H _ _ uv vv Q I ru rv ⟨_, _, dp_rdb f h2.1 rx, dp_rdb f h2.2 ry, h2.1, h2.2, q⟩
  | lt =>
    cases x <;> cases y <;> simp only [cmp2] at hb <;> try (cases hb; done)
    cases hb
    obtain rfl := rdb_int rx
    obtain rfl := rdb_int ry
    exact op_lt pins s σ H _ _ uv vv Q I ru rv ⟨_, _, rfl, rfl, q⟩
  | le =>
    cases x <;> cases y <;> simp only [cmp2] at hb <;> try (cases hb; done)
    cases hb
    obtain rfl := rdb_int rx
    obtain rfl := rdb_int ry
    exact op_le pins s σ H _ _ uv vv Q I ru rv ⟨_, _, rfl, rfl, q⟩
  | gt =>
    cases x <;> cases y <;> simp only [cmp2] at hb <;> try (cases hb; done)
    cases hb
    obtain rfl := rdb_int rx
    obtain rfl := rdb_int ry
    exact op_gt pins s σ H _ _ uv vv Q I ru rv ⟨_, _, rfl, rfl, q⟩
  | ge =>
    cases x <;> cases y <;> simp only [cmp2] at hb <;> try (cases hb; done)
    cases hb
    obtain rfl := rdb_int rx
    obtain rfl := rdb_int ry
    exact op_ge pins s σ H _ _ uv vv Q I ru rv ⟨_, _, rfl, rfl, q⟩
  | is_ =>
    have hb' := hb
    cases y <;> simp only [cmp2] at hb <;> try (cases hb; done)
    obtain rfl := rdb_non ry
    refine op_isN pins s σ H _ _ uv vv Q I ru rv ⟨rfl, ?_⟩
    rw [rep_non_iff rx hb']; exact q
  | isnot =>
    cases y <;> simp only [cmp2] at hb <;> try (cases hb; done)
    obtain rfl := rdb_non ry
    have hb' : cmp2 .is_ x .non = some (!b) := by cases x <;> cases hb <;> rfl
    refine op_notN pins s σ H _ _ uv vv Q I ru rv ⟨rfl, ?_⟩
    rw [rep_non_iff rx hb', Bool.not_not]; exact q
  | inn =>
    by_cases hs : ∃ z, y = .str z
    · obtain ⟨z, rfl⟩ := hs
      cases x <;> simp only [cmp2] at hb <;> try (cases hb; done)
      rename_i w
      split at hb
      case h_2 => cases hb
      rename_i c hc
      cases hb
      obtain rfl := rdb_str rx
      obtain rfl := rdb_str ry
      have ew : w = ⟨#[c]⟩ := by
        obtain ⟨w⟩ := w
        simp only at hc
        congr 1
        apply Array.ext'
        exact hc
      subst ew
      exact op_in_sign pins s σ H _ _ uv vv Q I ru rv ⟨c, z, rfl, rfl, q⟩
    cases y <;> first | exact absurd ⟨_, rfl⟩ hs | skip
    all_goals simp only [cmp2] at hb
    all_goals try (cases hb; done)
    case tup ys =>
      cases x <;> simp only [cmp2] at hb <;> try (cases hb; done)
      rename_i i
      simp only [Option.map_eq_some_iff] at hb
      obtain ⟨ns, hn, rfl⟩ := hb
      obtain rfl := rdb_int rx
      obtain ⟨a, vs, rfl, h1, l⟩ := (by simpa only [Rdb, Rep] using ry : ∃ a vs, v = .ref a ∧ F a (.tup vs) ∧ RepL F ys vs)
      rw [intsOf_eq hn] at l
      obtain rfl := repL_ints l
      exact op_in_seq pins s σ H _ _ uv vv Q I ru rv ⟨a, _, rfl, .inr (sqT_of f h1), rfl, flat_ints ns, by rw [if_neg (by decide), inV_ints]; exact q⟩
    rename_i ys
    by_cases hz : (okD x && okD (.lst ys)) = true
    case neg => rw [if_neg hz] at hb; cases hb
    rw [if_pos hz] at hb
    cases hb
    have h2 := Bool.and_eq_true_iff.mp hz
    exact op_inD hu pins s σ H _ _ uv vv Q I ru rv ⟨_, _, dp_rdb f h2.1 rx, dp_rdb f h2.2 ry, h2.1, h2.2, q⟩
  | nin =>
    by_cases hs : ∃ z, y = .str z
    · obtain ⟨z, rfl⟩ := hs
      cases x <;> simp only [cmp2] at hb <;> try (cases hb; done)
      rename_i w
      split at hb
      case h_2 => cases hb
      rename_i c hc
      cases hb
      obtain rfl := rdb_str rx
      obtain rfl := rdb_str ry
      have ew : w = ⟨#[c]⟩ := by
        obtain ⟨w⟩ := w
        simp only at hc
        congr 1
        apply Array.ext'
        exact hc
      subst ew
      exact op_notIn_sign pins s σ H _ _ uv vv Q I ru rv ⟨c, z, rfl, rfl, q⟩
    cases y <;> first | exact absurd ⟨_, rfl⟩ hs | skip
    all_goals simp only [cmp2] at hb
    all_goals try (cases hb; done)
    case tup ys =>
      cases x <;> simp only [cmp2] at hb <;> try (cases hb; done)
      rename_i i
      simp only [Option.map_eq_some_iff] at hb
      obtain ⟨ns, hn, rfl⟩ := hb
      obtain rfl := rdb_int rx
      obtain ⟨a, vs, rfl, h1, l⟩ := (by simpa only [Rdb, Rep] using ry : ∃ a vs, v = .ref a ∧ F a (.tup vs) ∧ RepL F ys vs)
      rw [intsOf_eq hn] at l
      obtain rfl := repL_ints l
      exact op_notIn_seq pins s σ H _ _ uv vv Q I ru rv ⟨a, _, rfl, .inr (sqT_of f h1), rfl, flat_ints ns, by rw [if_pos rfl, inV_ints]; exact q⟩
    rename_i ys
    by_cases hz : (okD x && okD (.lst ys)) = true
    case neg => rw [if_neg hz] at hb; cases hb
    rw [if_pos hz] at hb
    cases hb
    have h2 := Bool.and_eq_true_iff.mp hz
    exact op_notInD hu pins s σ H _ _ uv vv Q I ru rv ⟨_, _, dp_rdb f h2.1 rx, dp_rdb f h2.2 ry, h2.1, h2.2, q⟩
theorem neg_sem : UnR X (unaryOp .USub) (fun x H Q => rSem X.K .neg [x] H Q) := by
  intro pins s σ H u uv Q I ru h
  obtain ⟨F, cs, pvs, r, f, rd, hp, q⟩ := h
  match pvs, rdbs_len rd, hp, rd with
  | [x], _, hp, rd =>
    have rx := rdbs1 rd
    cases x <;> simp only [prim] at hp <;> try (cases hp; done)
    cases hp
    have e := rdb_int rx; subst e
    exact un_neg pins s σ H _ uv Q I ru ⟨_, rfl, q _ (rep_int.mpr rfl)⟩
theorem prim_ix {x : PV} {i : Int} (h : ∀ z, x ≠ .str z) : prim .ix [x, .int i] = match items x with
    | some xs => (place xs.length i).bind fun k => xs[k]?.map .old
    | none => none := by cases x <;> first | rfl | exact absurd rfl (h _)
theorem prim_ixn {x y : PV} (h : ∀ i, y ≠ .int i) : prim .ix [x, y] = none := by cases x <;> cases y <;> first | rfl | exact absurd rfl (h _)
theorem prim_len {x : PV} (h : ∀ z, x ≠ .str z) : prim .len [x] = match items x with
    | some xs => some (.old (.int xs.length))
    | none => none := by cases x <;> first | rfl | exact absurd rfl (h _)
theorem ix_sem : IxR X (rSem2 X.K .ix) := by
  intro value slice pins s σ H u v uv vv Q I ru rv h hs
  obtain ⟨F, cs, pvs, r, f, rd, hp, q⟩ := h
  obtain ⟨x, y, rfl⟩ := rdbs_shape2 rd
  obtain ⟨rx, ry⟩ := rdbs2 rd
  by_cases hy : ∃ i, y = .int i
  case neg => rw [prim_ixn fun i e => hy ⟨i, e⟩] at hp; cases hp
  obtain ⟨i, rfl⟩ := hy
  have ey := rdb_int ry; subst ey
  by_cases hx : ∃ z, x = .str z
  · obtain ⟨z, rfl⟩ := hx
    simp only [prim] at hp
    split at hp
    case isFalse => cases hp
    rename_i hz
    obtain rfl := rdb_str rx
    simp only [Option.bind_eq_some_iff, Option.map_eq_some_iff] at hp
    obtain ⟨k, hk, c, hc, rfl⟩ := hp
    refine ix_str value slice pins s σ H _ _ uv vv Q I ru rv ⟨z, i, c, rfl, rfl, Nat.le_trans hz (by decide), ?_, q _ (rep_str.mpr rfl)⟩ hs
    unfold atI
    rw [show ixN z.cps.toList.length i = place z.cps.toList.length i from rfl, hk]
    exact hc
  · rw [prim_ix fun z e => hx ⟨z, e⟩] at hp
    cases hi : items x with
    | none => rw [hi] at hp; cases hp
    | some xs =>
      rw [hi] at hp
      obtain ⟨a, vs, rfl, hq, l⟩ := items_of f rx hi
      simp only [Option.bind_eq_some_iff, Option.map_eq_some_iff] at hp
      obtain ⟨k, hk, z, hz, rfl⟩ := hp
      obtain ⟨w, hw, rw'⟩ := l.get hz
      have ha : atI vs i = some w := by
        unfold atI
        have : ixN vs.length i = place xs.length i := by rw [l.length]; rfl
        rw [this, hk]; exact hw
      rcases hq with hq | hq
      · exact ix_list value slice pins s σ H _ _ uv vv Q I ru rv ⟨a, vs, i, w, rfl, rfl, hq, ha, q _ rw'⟩ hs
      · exact ix_tup value slice pins s σ H _ _ uv vv Q I ru rv ⟨a, vs, i, w, rfl, rfl, hq, ha, q _ rw'⟩ hs

/-! ### built-in functions -/
theorem shape1 {K : PySem.W.Frag} {p : Prim} {vs : List V} {H : Hp} {Q : VK} (h : rSem K p vs H Q) (h1 : ∀ pvs r, prim p pvs = some r → ∃ x, pvs = [x]) :
    ∃ F cs x r v, vs = [v] ∧ Fr K F H cs ∧ Rdb K F H x v ∧ prim p [x] = some r ∧ PRok F r H Q := by
  obtain ⟨F, cs, pvs, r, f, rd, hp, q⟩ := h
  obtain ⟨x, rfl⟩ := h1 _ _ hp
  have e := rdbs_len rd
  match vs, e with
  | [v], _ => exact ⟨F, cs, x, r, v, rfl, f, rdbs1 rd, hp, q⟩
theorem len_sem : CallR X (.builtin "len") (rSem X.K .len) := by
  intro pins s σ H vs us Q I rv h
  obtain ⟨F, cs, x, r, v, rfl, f, rx, hp, q⟩ := shape1 h fun pvs r e => by
    rcases pvs with _ | ⟨x, _ | ⟨y, z⟩⟩
    · simp [prim] at e
    · exact ⟨x, rfl⟩
    · simp [prim] at e
  by_cases hx : ∃ z, x = .str z
  · obtain ⟨z, rfl⟩ := hx
    simp only [prim] at hp
    split at hp
    case isFalse => cases hp
    rename_i hz
    cases hp
    obtain rfl := rdb_str rx
    exact call_len_str pins s σ H _ us Q I rv ⟨z, rfl, Nat.le_trans hz (by decide), q _ (rep_int.mpr rfl)⟩
  · rw [prim_len fun z e => hx ⟨z, e⟩] at hp
    cases hi : items x with
    | none => rw [hi] at hp; cases hp
    | some xs =>
      rw [hi] at hp; cases hp
      obtain ⟨a, vs, rfl, hq, l⟩ := items_of f rx hi
      refine call_len_seq pins s σ H _ us Q I rv ⟨a, vs, rfl, hq, ?_⟩
      rw [l.length]
      exact q _ (rep_int.mpr rfl)
theorem toInt_sem : CallR X (.type "int") (rSem X.K .toInt) := by
  intro pins s σ H vs us Q I rv h
  obtain ⟨F, cs, x, r, v, rfl, f, rx, hp, q⟩ := shape1 h fun pvs r e => by
    rcases pvs with _ | ⟨x, _ | ⟨y, z⟩⟩
    · simp [prim] at e
    · exact ⟨x, rfl⟩
    · simp [prim] at e
  cases x <;> simp only [prim] at hp <;> try (cases hp; done)
  · cases hp
    have e := rdb_bl rx; subst e
    exact call_int1 pins s σ H _ us Q I rv (.inr ⟨_, rfl, q _ (rep_int.mpr rfl)⟩)
  · cases hp
    have e := rdb_int rx; subst e
    exact call_int1 pins s σ H _ us Q I rv (.inl ⟨_, rfl, q _ (rep_int.mpr rfl)⟩)
theorem abs_sem : CallR X (.builtin "abs") (rSem X.K .abs) := by
  intro pins s σ H vs us Q I rv h
  obtain ⟨F, cs, x, r, v, rfl, f, rx, hp, q⟩ := shape1 h fun pvs r e => by
    rcases pvs with _ | ⟨x, _ | ⟨y, z⟩⟩
    · simp [prim] at e
    · exact ⟨x, rfl⟩
    · simp [prim] at e
  cases x <;> simp only [prim] at hp <;> try (cases hp; done)
  cases hp
  have e := rdb_int rx; subst e
  rename_i i
  refine call_abs pins s σ H _ us Q I rv ⟨_, rfl, ?_⟩
  have e : (if i < 0 then -i else i) = (i.natAbs : Int) := by split <;> omega
  rw [e]; exact q _ (rep_int.mpr rfl)
theorem toLst_sem : CallR X (.type "list") (rSem X.K .toLst) := by
  intro pins s σ H vs us Q I rv h
  obtain ⟨F, cs, x, r, v, rfl, f, rx, hp, q⟩ := shape1 h fun pvs r e => by
    rcases pvs with _ | ⟨x, _ | ⟨y, z⟩⟩
    · simp [prim] at e
    · exact ⟨x, rfl⟩
    · simp [prim] at e
  simp only [prim] at hp
  cases hi : items x with
  | none => rw [hi] at hp; cases hp
  | some xs =>
    rw [hi] at hp; cases hp
    obtain ⟨a, vs, rfl, hq, l⟩ := items_of f rx hi
    exact call_list_of pins s σ H _ us Q I rv ⟨a, vs, rfl, hq, fun p hp => q p _ hp l⟩
theorem insS_perm (x : Int) : ∀ l : List Int, (insSorted x l).Perm (x :: l)
  | [] => .refl _
  | y :: ys => by
    unfold insSorted
    by_cases h : x ≤ y
    · rw [if_pos h]
    · rw [if_neg h]
      exact ((insS_perm x ys).cons y).trans (.swap x y ys)
theorem isort_perm : ∀ l : List Int, (isort l).Perm l
  | [] => .refl _
  | x :: xs => (insS_perm x (isort xs)).trans ((isort_perm xs).cons x)
theorem insS_sorted (x : Int) : ∀ l : List Int, l.Pairwise (· ≤ ·) → (insSorted x l).Pairwise (· ≤ ·)
  | [], _ => List.pairwise_singleton _ _
  | y :: ys, h => by
    obtain ⟨h1, h2⟩ := List.pairwise_cons.mp h
    unfold insSorted
    by_cases hx : x ≤ y
    · rw [if_pos hx]
      refine List.pairwise_cons.mpr ⟨fun z hz => ?_, h⟩
      rcases List.mem_cons.mp hz with rfl | hz
      · exact hx
      · exact Int.le_trans hx (h1 z hz)
    · rw [if_neg hx]
      refine List.pairwise_cons.mpr ⟨fun z hz => ?_, insS_sorted x ys h2⟩
      rcases List.mem_cons.mp ((insS_perm x ys).mem_iff.mp hz) with rfl | hz
      · omega
      · exact h1 z hz
theorem isort_sorted : ∀ l : List Int, (isort l).Pairwise (· ≤ ·)
  | [] => .nil
  | x :: xs => insS_sorted x _ (isort_sorted xs)
theorem sorted_uniq : ∀ {a b : List Int}, a.Perm b → a.Pairwise (· ≤ ·) → b.Pairwise (· ≤ ·) → a = b
  | [], b, p, _, _ => (List.Perm.nil_eq p)
  | x :: xs, [], p, _, _ => (List.Perm.eq_nil p)
  | x :: xs, y :: ys, p, ha, hb => by
    obtain ⟨a1, a2⟩ := List.pairwise_cons.mp ha
    obtain ⟨b1, b2⟩ := List.pairwise_cons.mp hb
    have e : x = y := by
      have h1 : x ∈ y :: ys := p.mem_iff.mp List.mem_cons_self
      have h2 : y ∈ x :: xs := p.mem_iff.mpr List.mem_cons_self
      rcases List.mem_cons.mp h1 with z | z
      · exact z
      · rcases List.mem_cons.mp h2 with w | w
        · exact w.symm
        · have := b1 x z
          have := a1 y w
          omega
    subst e
    rw [sorted_uniq ((List.perm_cons x).mp p) a2 b2]
theorem sorted_sem : CallR X (.builtin "sorted") (rSem X.K .sorted) := by
  intro pins s σ H vs us Q I rv h
  obtain ⟨F, cs, x, r, v, rfl, f, rx, hp, q⟩ := shape1 h fun pvs r e => by
    rcases pvs with _ | ⟨x, _ | ⟨y, z⟩⟩
    · simp [prim] at e
    · exact ⟨x, rfl⟩
    · simp [prim] at e
  cases x <;> simp only [prim] at hp <;> try (cases hp; done)
  rename_i xs
  simp only [Option.map_eq_some_iff] at hp
  obtain ⟨ns, hn, rfl⟩ := hp
  obtain ⟨a, vs, rfl, h1, l⟩ := rx
  rw [intsOf_eq hn] at l
  obtain rfl := repL_ints l
  refine cr_sortedI pins s σ H _ us Q I rv ⟨a, ns, rfl, .inl (.of h1), fun ns' p hperm hs hp => ?_⟩
  have e : ns' = isort ns := sorted_uniq (hperm.trans (isort_perm ns).symm) hs (isort_sorted ns)
  subst e
  exact q p _ hp (RepL.ints _)
theorem toTup_sem : CallR X (.type "tuple") (rSem X.K .toTup) := by
  intro pins s σ H vs us Q I rv h
  obtain ⟨F, cs, x, r, v, rfl, f, rx, hp, q⟩ := shape1 h fun pvs r e => by
    rcases pvs with _ | ⟨x, _ | ⟨y, z⟩⟩
    · simp [prim] at e
    · exact ⟨x, rfl⟩
    · simp [prim] at e
  cases x <;> simp only [prim, items] at hp <;> try (cases hp; done)
  case tup xs =>
    cases hp
    have ry : Rep F (.tup xs) v := rx
    obtain ⟨a, vs, rfl, h1, l⟩ := (by simpa only [Rep] using ry : ∃ a vs, v = .ref a ∧ F a (.tup vs) ∧ RepL F xs vs)
    exact call_tuple_of pins s σ H _ us Q I rv ⟨a, vs, rfl, .inr ⟨sqT_of f h1, q.2 _ ry⟩⟩
  case lst xs =>
    cases hp
    obtain ⟨a, vs, rfl, h1, l⟩ := rx
    exact call_tuple_of pins s σ H _ us Q I rv ⟨a, vs, rfl, .inl ⟨.of h1, fun p hp => q.1 p _ hp l⟩⟩
  case scr ns =>
    cases hp
    have ry : Rep F (.scr ns) v := rx
    obtain ⟨a, ob, rfl, h1⟩ := (by simpa only [Rep] using ry : ∃ a ob, v = .ref a ∧ F a (.frz ob (.lst (ns.map V.int))))
    exact call_tuple_of pins s σ H _ us Q I rv ⟨a, _, rfl, .inl ⟨sqS_of f h1, fun p hp => q.1 p _ hp (RepL.ints ns)⟩⟩
theorem mm_shape {K : PySem.W.Frag} {p : Prim} {vs : List V} {H : Hp} {Q : VK} {g : Int → Int → Int} (h : rSem K p vs H Q)
    (h1 : ∀ pvs r, prim p pvs = some r → ∃ i j, pvs = [.int i, .int j] ∧ r = .old (.int (g i j))) : ∃ i j, vs = [.int i, .int j] ∧ Q (.int (g i j)) H := by
  obtain ⟨F, cs, pvs, r, f, rd, hp, q⟩ := h
  obtain ⟨i, j, rfl, rfl⟩ := h1 _ _ hp
  have e := rdbs_len rd
  match vs, e, rd with
  | [u, v], _, rd =>
    obtain ⟨a, b⟩ := rdbs2 rd
    have ea := rdb_int a; have eb := rdb_int b; subst ea eb
    exact ⟨i, j, rfl, q _ (rep_int.mpr rfl)⟩
theorem min_sem (hc : X.calm = true) : CallR X (.builtin "min") (rSem X.K .min2) := by
  intro pins s σ H vs us Q I rv h
  obtain ⟨i, j, rfl, q⟩ := mm_shape (g := fun i j => min i j) h fun pvs r e => by
    match pvs, e with
    | [.int i, .int j], e => cases e; exact ⟨i, j, rfl, rfl⟩
  refine call_min2 hc pins s σ H _ us Q I rv ⟨i, j, rfl, ?_⟩
  have e : (if j < i then j else i) = min i j := by split <;> omega
  rw [e]; exact q
theorem max_sem (hc : X.calm = true) : CallR X (.builtin "max") (rSem X.K .max2) := by
  intro pins s σ H vs us Q I rv h
  obtain ⟨i, j, rfl, q⟩ := mm_shape (g := fun i j => max i j) h fun pvs r e => by
    match pvs, e with
    | [.int i, .int j], e => cases e; exact ⟨i, j, rfl, rfl⟩
  refine call_max2 hc pins s σ H _ us Q I rv ⟨i, j, rfl, ?_⟩
  have e : (if j > i then j else i) = max i j := by split <;> omega
  rw [e]; exact q
def tyName : Ty → String
  | .int => "int" | .bool => "bool" | .str => "str" | .tup => "tuple" | .lst => "list"
theorem tyX_of {K : PySem.W.Frag} {F : Fz} {H : Hp} {cs : Cells} {x : PV} {v : V} (f : Fr K F H cs) (r : Rdb K F H x v) (h : ∀ ns, x ≠ .scr ns) (h' : x ≠ .opq) : ∃ t : String, TyX K H v (.type t) ∧
    (match x with | .non => t = "NoneType" | .bl _ => t = "bool" | .int _ => t = "int" | .str _ => t = "str" | .tup _ => t = "tuple" | .lst _ => t = "list" | _ => True) := by
  cases x with
  | non => obtain rfl := rdb_non r; exact ⟨_, .base .non, rfl⟩
  | bl b => obtain rfl := rdb_bl r; exact ⟨_, .base (.bl b), rfl⟩
  | int i => obtain rfl := rdb_int r; exact ⟨_, .base (.int i), rfl⟩
  | str i => obtain rfl := rdb_str r; exact ⟨_, .base (.str i), rfl⟩
  | lst xs =>
    obtain ⟨a, vs, rfl, h1, _⟩ := r
    exact ⟨_, .base (.lst h1), rfl⟩
  | tup xs =>
    obtain ⟨a, vs, rfl, h1, l⟩ := (by simpa only [Rdb, Rep] using r : ∃ a vs, v = .ref a ∧ F a (.tup vs) ∧ RepL F xs vs)
    refine ⟨"tuple", ?_, rfl⟩
    rcases sqT_of f h1 with (q | ⟨o, q⟩) | ⟨o, its, n, hk, hc, _⟩
    · exact .base (.tup q)
    · exact .fTuple q
    · exact .kTuple hk hc
  | scr ns => exact absurd rfl (h ns)
  | opq => exact absurd rfl h'
theorem isi_sem (t : Ty) : CallR X (.builtin "isinstance") (fun vs H Q => ∃ v, vs = [v, .ty (tyName t)] ∧ rSem X.K (.isi t) [v] H Q) := by
  intro pins s σ H vs us Q I rv h
  obtain ⟨v, rfl, h⟩ := h
  obtain ⟨F, cs, x, r, w, e, f, rx, hp, q⟩ := shape1 h fun pvs r e => by
    rcases pvs with _ | ⟨x, _ | ⟨y, z⟩⟩
    · simp [prim] at e
    · exact ⟨x, rfl⟩
    · simp [prim] at e
  cases e
  have nx : ∀ ns, x ≠ .scr ns := by rintro ns rfl; simp [prim] at hp
  have ny : x ≠ .opq := by rintro rfl; simp [prim] at hp
  obtain ⟨ty, hty, hm⟩ := tyX_of f rx nx ny
  have hq : Q (.bl ((tyOf x).contains t)) H := by
    have e : prim (.isi t) [x] = some (.old (.bl ((tyOf x).contains t))) := by cases x <;> simp [prim] <;> first | exact absurd rfl (nx _) | exact absurd rfl ny
    rw [e] at hp; cases hp
    exact q _ (rep_bl.mpr rfl)
  refine call_isi pins s σ H _ us Q I rv ⟨v, .ty (tyName t), .type ty, .type (tyName t), (tyOf x).contains t, rfl, .ty _, hty, ?_, hq⟩
  refine kit_ty ?_
  cases x <;> cases t <;> first | exact absurd rfl (nx _) | exact absurd rfl ny | (simp only at hm; subst hm; simp only [tyOf]; decide +kernel)
end
end MP
set_option Elab.async false
set_option linter.all false
set_option maxRecDepth 100000
set_option maxHeartbeats 1000000
/-! M3: frames; operands. -/
namespace MP
open PySem L2

/-! ### the roots of a frame -/
def er : Env → St → List Root
  | some s :: e, some v :: σ => ⟨s.v, s.d, v⟩ :: er e σ
  | _ :: e, _ :: σ => er e σ
  | _, _ => []
structure WF (env : Env) (σ : St) : Prop where
  len : env.length = σ.length
  val : ∀ (i : Nat) s, env[i]? = some (some s) → ∃ v, σ[i]? = some (some v)
theorem er_pick : ∀ {env : Env} {σ : St} {i : Nat} {s : Slot} {v : V}, env[i]? = some (some s) → σ[i]? = some (some v) → (er env σ).Perm (⟨s.v, s.d, v⟩ :: er (env.set i none) σ)
  | [], _, i, s, v, h, _ => by simp at h
  | _ :: _, [], i, s, v, _, h => by simp at h
  | a :: e, b :: σ, 0, s, v, h, g => by
    simp at h g
    subst h g
    exact List.Perm.refl _
  | a :: e, b :: σ, i + 1, s, v, h, g => by
    have ih := er_pick (env := e) (σ := σ) (i := i) (s := s) (v := v) (by simpa using h) (by simpa using g)
    cases a with
    | none => exact ih
    | some t =>
      cases b with
      | none => exact ih
      | some w => exact (List.Perm.cons _ ih).trans (List.Perm.swap ..)
theorem er_set : ∀ {env : Env} {σ : St} {i : Nat} (x : Option V), er (env.set i none) (σ.set i x) = er (env.set i none) σ
  | [], _, _, _ => rfl
  | _ :: _, [], _, _ => rfl
  | a :: e, b :: σ, 0, x => by
    show er (none :: e) (x :: σ) = er (none :: e) (b :: σ)
    rfl
  | a :: e, b :: σ, i + 1, x => by
    have ih := er_set (env := e) (σ := σ) (i := i) x
    show er (a :: e.set i none) (b :: σ.set i x) = er (a :: e.set i none) (b :: σ)
    cases a <;> cases b <;> simp [er, ih]
theorem set_none {env : Env} {i : Nat} (h : env[i]? = some none) : env.set i none = env := by
  apply List.ext_getElem?
  intro j
  by_cases e : i = j
  · subst e
    have := (List.getElem?_eq_some_iff.mp h).1
    rw [List.getElem?_set_self this, h]
  · rw [List.getElem?_set_ne e]
/-- a name takes a value -/
theorem er_put {env : Env} {σ : St} {i : Nat} {s : Slot} {v : V} (hi : i < env.length) (hv : σ[i]? = some (some v)) : (er (env.set i (some s)) σ).Perm (⟨s.v, s.d, v⟩ :: er (env.set i none) σ) := by
  have := er_pick (env := env.set i (some s)) (σ := σ) (i := i) (s := s) (v := v) (List.getElem?_set_self hi) hv
  rwa [List.set_set] at this
theorem er_store {env : Env} {σ : St} {i : Nat} {s : Slot} {v : V} (hi : i < env.length) (hl : env.length = σ.length) : (er (env.set i (some s)) (σ.set i (some v))).Perm (⟨s.v, s.d, v⟩ :: er (env.set i none) σ) := by
  have := er_put (env := env) (σ := σ.set i (some v)) (i := i) (s := s) (v := v) hi (List.getElem?_set_self (by omega))
  rwa [er_set] at this
theorem WF.setN {env : Env} {σ : St} (w : WF env σ) (i : Nat) : WF (env.set i none) σ := ⟨by rw [List.length_set]; exact w.len, fun j s h => by
  by_cases e : i = j
  · subst e
    by_cases hi : i < env.length
    · rw [List.getElem?_set_self hi] at h; cases h
    · rw [List.getElem?_eq_none (by simpa using hi)] at h; cases h
  · rw [List.getElem?_set_ne e] at h; exact w.val j s h⟩
theorem WF.setS {env : Env} {σ : St} (w : WF env σ) {i : Nat} {v : V} (s : Slot) (hv : σ[i]? = some (some v)) : WF (env.set i (some s)) σ := ⟨by rw [List.length_set]; exact w.len, fun j t h => by
  by_cases e : i = j
  · subst e; exact ⟨v, hv⟩
  · rw [List.getElem?_set_ne e] at h; exact w.val j t h⟩
theorem WF.store {env : Env} {σ : St} (w : WF env σ) {i : Nat} (v : V) (s : Slot) (hi : i < env.length) : WF (env.set i (some s)) (σ.set i (some v)) := ⟨by rw [List.length_set, List.length_set]; exact w.len, fun j t h => by
  by_cases e : i = j
  · subst e; exact ⟨v, List.getElem?_set_self (by have := w.len; omega)⟩
  · rw [List.getElem?_set_ne e] at h ⊢; exact w.val j t h⟩

/-- names keep holding something, what is lent stays lent -/
structure KeepE (env env' : Env) : Prop where
  len : env'.length = env.length
  keep : ∀ (i : Nat) s, env[i]? = some (some s) → ∃ s', env'[i]? = some (some s') ∧ s'.l = s.l
theorem KeepE.refl (env : Env) : KeepE env env := ⟨rfl, fun _ s h => ⟨s, h, rfl⟩⟩
theorem KeepE.trans {a b c : Env} (h : KeepE a b) (g : KeepE b c) : KeepE a c := ⟨g.len.trans h.len, fun i s e => by
  obtain ⟨t, e1, l1⟩ := h.keep i s e
  obtain ⟨u, e2, l2⟩ := g.keep i t e1
  exact ⟨u, e2, l2.trans l1⟩⟩
theorem KeepE.set {env : Env} {i : Nat} {s t : Slot} (h : env[i]? = some (some s)) (hl : t.l = s.l) : KeepE env (env.set i (some t)) := ⟨List.length_set, fun j u e => by
  by_cases z : i = j
  · subst z
    rw [h] at e; cases e
    exact ⟨t, List.getElem?_set_self (List.getElem?_eq_some_iff.mp h).1, hl⟩
  · exact ⟨u, by rw [List.getElem?_set_ne z]; exact e, rfl⟩⟩

section
variable {K : PySem.W.Frag} {F : Fz} {R E : List Root} {H : Hp} {r : Root}
theorem INV.mid (i : INV K F (r :: (E ++ R)) H) : INV K F (E ++ (r :: R)) H := i.perm List.perm_middle.symm
theorem INV.unmid (i : INV K F (E ++ (r :: R)) H) : INV K F (r :: (E ++ R)) H := i.perm List.perm_middle
theorem INV.pick {env : Env} {σ : St} {i : Nat} {s : Slot} {v : V} (h : INV K F (er env σ ++ R) H) (he : env[i]? = some (some s)) (hv : σ[i]? = some (some v)) : INV K F (⟨s.v, s.d, v⟩ :: (er (env.set i none) σ ++ R)) H :=
  h.perm (List.Perm.append_right R (er_pick he hv))
theorem INV.put {env : Env} {σ : St} {i : Nat} {s : Slot} {v : V} (h : INV K F (⟨s.v, s.d, v⟩ :: (er (env.set i none) σ ++ R)) H) (hi : i < env.length) (hv : σ[i]? = some (some v)) : INV K F (er (env.set i (some s)) σ ++ R) H :=
  h.perm (List.Perm.append_right R (er_put hi hv)).symm
theorem INV.store {env : Env} {σ : St} {i : Nat} {s : Slot} {v : V} (h : INV K F (⟨s.v, s.d, v⟩ :: (er (env.set i none) σ ++ R)) H) (hi : i < env.length) (hl : env.length = σ.length) : INV K F (er (env.set i (some s)) (σ.set i (some v)) ++ R) H :=
  h.perm (List.Perm.append_right R (er_store hi hl)).symm
/-- a name's own object is frozen -/
theorem INV.frz {env : Env} {σ : St} {i : Nat} {s : Slot} {v : V} (h : INV K F (er env σ ++ R) H) (he : env[i]? = some (some s)) (hv : σ[i]? = some (some v)) :
    ∃ F', F.le F' ∧ Rep F' s.v v ∧ INV K F' (er (frz env i) σ ++ R) H := by
  obtain ⟨F', le, r, j⟩ := (h.pick he hv).freeze
  refine ⟨F', le, r, ?_⟩
  unfold MP.frz
  rw [he]
  exact INV.put (s := { s with d := 0 }) j (List.getElem?_eq_some_iff.mp he).1 hv
theorem frz_wf {env : Env} {σ : St} {i : Nat} (w : WF env σ) : WF (frz env i) σ := by
  unfold MP.frz
  split
  · rename_i s h
    obtain ⟨v, hv⟩ := w.val i s h
    exact w.setS _ hv
  · exact w
theorem frz_keep {env : Env} {i : Nat} : KeepE env (frz env i) := by
  unfold MP.frz
  split
  · rename_i s h
    exact .set h rfl
  · exact .refl _
theorem AllC.rep0 : ∀ {xs : List PV} {vs : List V} {c : Cells}, AllC (Own F 0) xs vs c → RepL F xs vs
  | [], _, _, l => by obtain ⟨rfl, _⟩ := l; exact .nil
  | x :: xs, _, _, l => by
    obtain ⟨v, s, d1, d2, rfl, rfl, h1, h2⟩ := l
    exact .cons h1.2 (AllC.rep0 h2)
/-- what a root of depth 1 lets read -/
theorem INV.rdb {x : PV} {d : Nat} {v : V} (i : INV K F (⟨x, d, v⟩ :: R) H) (hd : d ≤ 1) : ∃ cs, Fr K F H cs ∧ Rdb K F H x v := by
  obtain ⟨cs, ⟨c1, c2, rfl, a, b⟩, f⟩ := i
  refine ⟨c1 ++ c2, f, ?_⟩
  match d, hd, a with
  | 0, _, a => exact Rdb.of f a.2
  | 1, _, a =>
    cases x with
    | lst xs =>
      obtain ⟨p, vs, c, rfl, rfl, l⟩ := a
      exact ⟨p, vs, rfl, f.own _ (List.mem_append_left _ List.mem_cons_self), l.rep0⟩
    | _ => exact Rdb.of f a.2
theorem Rdb.mono {F' : Fz} (h : F.le F') {x : PV} {v : V} (r : Rdb K F H x v) : Rdb K F' H x v := by
  cases x with
  | lst xs =>
    obtain ⟨a, vs, e, h1, l⟩ := r
    exact ⟨a, vs, e, h1, RepL.mono h _ _ l⟩
  | _ => exact Rep.mono h _ _ r
theorem Rdbs.mono {F' : Fz} (h : F.le F') : ∀ {xs : List PV} {vs : List V}, Rdbs K F H xs vs → Rdbs K F' H xs vs
  | [], _, r => r
  | x :: xs, _, ⟨v, s, e, a, b⟩ => ⟨v, s, e, a.mono h, Rdbs.mono h b⟩
end

/-! ### operands -/
def avR : AV → V → List Root
  | .own _, _ => []
  | .val x d, v => [⟨x, d, v⟩]
def avRs : List AV → List V → List Root
  | a :: as, v :: vs => avR a v ++ avRs as vs
  | _, _ => []
def AVok (env : Env) (σ : St) : AV → V → Prop
  | .own i, v => (∃ s, env[i]? = some (some s)) ∧ σ[i]? = some (some v)
  | .val _ _, _ => True
def AVoks (env : Env) (σ : St) : List AV → List V → Prop
  | [], vs => vs = []
  | a :: as, vs => ∃ v r, vs = v :: r ∧ AVok env σ a v ∧ AVoks env σ as r
theorem AVok.keep {env env' : Env} {σ : St} (k : KeepE env env') {a : AV} {v : V} (h : AVok env σ a v) : AVok env' σ a v := by
  cases a with
  | own i =>
    obtain ⟨⟨s, e⟩, hv⟩ := h
    obtain ⟨s', e', _⟩ := k.keep i s e
    exact ⟨⟨s', e'⟩, hv⟩
  | val x d => trivial
theorem AVoks.keep {env env' : Env} {σ : St} (k : KeepE env env') : ∀ {as : List AV} {vs : List V}, AVoks env σ as vs → AVoks env' σ as vs
  | [], _, h => h
  | a :: as, _, ⟨v, r, e, h1, h2⟩ => ⟨v, r, e, h1.keep k, AVoks.keep k h2⟩
section
variable {K : PySem.W.Frag} {F : Fz} {R E : List Root} {H : Hp}
/-- an operand is read -/
theorem rdb_of {env : Env} {σ : St} {a : AV} {v : V} {x : PV} (i : INV K F (er env σ ++ (avR a v ++ R)) H) (ok : AVok env σ a v) (hr : resolve env a = some x) :
    ∃ F', F.le F' ∧ INV K F' (er env σ ++ R) H ∧ Rdb K F' H x v := by
  cases a with
  | own j =>
    obtain ⟨⟨s, he⟩, hv⟩ := ok
    simp only [resolve, he] at hr
    split at hr
    · rename_i hd
      cases hr
      obtain ⟨cs, f, r⟩ := (INV.pick (R := R) i he hv).rdb hd
      exact ⟨F, .refl F, i, r⟩
    · cases hr
  | val y d =>
    cases hr
    obtain ⟨F', le, r, j⟩ := (INV.unmid (r := ⟨x, d, v⟩) i).freeze
    obtain ⟨cs, rs, f⟩ := id j
    exact ⟨F', le, j.drop, Rdb.of f r⟩
theorem rdbs_of {env : Env} {σ : St} : ∀ {as : List AV} {vs : List V} {xs : List PV} {F : Fz}, INV K F (er env σ ++ (avRs as vs ++ R)) H → AVoks env σ as vs → resolves env as = some xs →
    ∃ F', F.le F' ∧ INV K F' (er env σ ++ R) H ∧ Rdbs K F' H xs vs
  | [], vs, xs, F, i, ok, hr => by
    obtain rfl : vs = [] := ok
    cases hr
    exact ⟨F, .refl F, i, rfl⟩
  | a :: as, vs, xs, F, i, ok, hr => by
    obtain ⟨v, r, rfl, h1, h2⟩ := ok
    simp only [resolves] at hr
    cases ha : resolve env a with
    | none => rw [ha] at hr; cases hr
    | some x =>
      rw [ha] at hr
      cases hs : resolves env as with
      | none => rw [hs] at hr; cases hr
      | some ys =>
        rw [hs] at hr; cases hr
        have i' : INV K F (er env σ ++ (avR a v ++ (avRs as r ++ R))) H := by
          have : avRs (a :: as) (v :: r) ++ R = avR a v ++ (avRs as r ++ R) := by simp [avRs]
          rwa [this] at i
        obtain ⟨F1, l1, j1, r1⟩ := rdb_of i' h1 ha
        obtain ⟨F2, l2, j2, r2⟩ := rdbs_of j1 h2 hs
        exact ⟨F2, l1.trans l2, j2, v, r, rfl, r1.mono l2, r2⟩
/-- an operand is taken as a value -/
theorem settle_of {env env' : Env} {σ : St} {a : AV} {v : V} {x : PV} (i : INV K F (er env σ ++ (avR a v ++ R)) H) (w : WF env σ) (ok : AVok env σ a v) (hs : settle a env = .ok x env') :
    ∃ F', F.le F' ∧ Rep F' x v ∧ INV K F' (er env' σ ++ R) H ∧ WF env' σ ∧ KeepE env env' := by
  cases a with
  | own j =>
    obtain ⟨⟨s, he⟩, hv⟩ := ok
    simp only [settle, he] at hs
    cases hs
    obtain ⟨F', le, r, k⟩ := INV.frz (R := R) i he hv
    exact ⟨F', le, r, k, frz_wf w, frz_keep⟩
  | val y d =>
    simp only [settle] at hs
    cases hs
    obtain ⟨F', le, r, k⟩ := (INV.unmid (r := ⟨x, d, v⟩) i).freeze
    exact ⟨F', le, r, k.drop, w, .refl _⟩
theorem settles_of {σ : St} : ∀ {as : List AV} {vs : List V} {xs : List PV} {env env' : Env} {F : Fz}, INV K F (er env σ ++ (avRs as vs ++ R)) H → WF env σ → AVoks env σ as vs → settles as env = some (xs, env') →
    ∃ F', F.le F' ∧ RepL F' xs vs ∧ INV K F' (er env' σ ++ R) H ∧ WF env' σ ∧ KeepE env env'
  | [], vs, xs, env, env', F, i, w, ok, h => by
    obtain rfl : vs = [] := ok
    cases h
    exact ⟨F, .refl F, .nil, i, w, .refl _⟩
  | a :: as, vs, xs, env, env', F, i, w, ok, h => by
    obtain ⟨v, r, rfl, h1, h2⟩ := ok
    simp only [settles] at h
    cases hs : settle a env with
    | stuck => rw [hs] at h; cases h
    | exc c x e => rw [hs] at h; cases h
    | ok x env1 =>
      rw [hs] at h
      dsimp only at h
      have i' : INV K F (er env σ ++ (avR a v ++ (avRs as r ++ R))) H := by
        have : avRs (a :: as) (v :: r) ++ R = avR a v ++ (avRs as r ++ R) := by simp [avRs]
        rwa [this] at i
      obtain ⟨F1, l1, r1, i1, w1, k1⟩ := settle_of i' w h1 hs
      cases hA : settles as env1 with
      | none => rw [hA] at h; cases h
      | some p =>
        obtain ⟨ys, env2⟩ := p
        rw [hA] at h
        cases h
        obtain ⟨F2, l2, r2, i2, w2, k2⟩ := settles_of i1 w1 (h2.keep k1) hA
        exact ⟨F2, l1.trans l2, .cons (Rep.mono l2 _ _ r1) r2, i2, w2, k1.trans k2⟩
/-- a result stands -/
theorem pres_of {env : Env} {σ : St} {r : PRes} {Q : VK} (i : INV K F (er env σ ++ R) H)
    (h : ∀ F' H' v, F.le F' → INV K F' (er env σ ++ (avR (.val (ofPRes r).1 (ofPRes r).2) v ++ R)) H' → Q v H') : PRok F r H Q := by
  cases r with
  | old x => exact fun u hu => h F H u (.refl F) (i.add0 hu).mid
  | newL xs => exact fun p us hp l => h F _ _ (.refl F) (i.newL hp l).mid
  | newT xs =>
    refine ⟨fun p us hp l => ?_, fun u hu => h F H u (.refl F) (i.add0 hu).mid⟩
    obtain ⟨F', le, j⟩ := i.newT hp l
    exact h F' _ _ le j.mid
end
end MP
set_option Elab.async false
set_option linter.all false
set_option maxRecDepth 100000
set_option maxHeartbeats 1000000
/-! M4: what the readings of expressions ask, of the small text's own run. -/
namespace MP
open PySem L2

def fldOf (P : Prog) (c : Nat) : Str := (P.cls[c]?.map (·.field)).getD (Str.ofString "")
/-- a class without a field of its own -/
def noF : Str := ""
/-- an error's own dict: its field, or none -/
def ExH (P : Prog) (F : Fz) (c : Nat) (d : Option Addr) (vx : V) : Prop := match d with
  | some dd => F dd (.xd [(fldOf P c, vx)])
  | none => fldOf P c = noF
theorem ExH.mono {P : Prog} {F F' : Fz} {c : Nat} {d : Option Addr} {vx : V} (le : F.le F') (h : ExH P F c d vx) : ExH P F' c d vx := by
  cases d with
  | none => exact h
  | some dd => exact le _ _ h

/-- what is fixed: the small text, the defs one level down, where the classes stand, what is frozen from the beginning, the wish about errors -/
structure Bd where
  P : Prog
  cf : Nat → List Slot → CR
  ca : Nat → Addr
  F0 : Fz
  K : PySem.W.Frag
  hx : Option (Nat × Nat × PV)
  W : WX
  ea : Addr
/-- what is frozen from the beginning stays; what is known of the frame's own values -/
structure Gd (B : Bd) (F : Fz) (σ : St) : Prop where
  le : B.F0.le F
  sg : ∀ j c x, B.hx = some (j, c, x) → σ[j]? = some (some (V.ref B.ea))
theorem Gd.trans {B : Bd} {F F' : Fz} {σ : St} (g : Gd B F σ) (h : F.le F') : Gd B F' σ := ⟨g.le.trans h, g.sg⟩

section
variable (B : Bd)
/-- an error leaves -/
def exO (σ : St) (T : List Root) (F : Fz) (env : Env) (c : Nat) (x : PV) (env' : Env) : Prop :=
  ∀ F' H' d vx, F.le F' → KeepE env env' → WF env' σ → INV B.K F' (er env' σ ++ T) H' → ExH B.P F' c d vx → Rep F' x vx → B.W (.ref (B.ca c)) d σ H'
def poA (σ : St) (T : List Root) (Q : VK) (F : Fz) (env : Env) : Out AV → Prop
  | .ok a env' => ∀ F' H' v, F.le F' → KeepE env env' → WF env' σ → INV B.K F' (er env' σ ++ (avR a v ++ T)) H' → AVok env' σ a v → Q v H'
  | .exc c x env' => exO B σ T F env c x env'
  | .stuck => False
def tE (me : E) : TE := fun σ H Q => ∃ F env T, Gd B F σ ∧ WF env σ ∧ INV B.K F (er env σ ++ T) H ∧ poA B σ T Q F env (evA B.P B.cf B.hx false me env)
def poT (σ : St) (T : List Root) (Q : Bool → Hp → Prop) (F : Fz) (env : Env) : Out Bool → Prop
  | .ok b env' => ∀ F' H', F.le F' → KeepE env env' → WF env' σ → INV B.K F' (er env' σ ++ T) H' → Q b H'
  | .exc c x env' => exO B σ T F env c x env'
  | .stuck => False
def tT (me : E) : TT := fun σ H Q => ∃ F env T, Gd B F σ ∧ WF env σ ∧ INV B.K F (er env σ ++ T) H ∧ poT B σ T Q F env (tst B.P B.cf B.hx me env)
def poAs (σ : St) (T : List Root) (accv : List V) (Q : List V → Hp → Prop) (F : Fz) (env : Env) : Out (List AV) → Prop
  | .ok as env' => ∀ F' H' vs, F.le F' → KeepE env env' → WF env' σ → INV B.K F' (er env' σ ++ (avRs as (accv ++ vs) ++ T)) H' → AVoks env' σ as (accv ++ vs) → Q vs H'
  | .exc c x env' => exO B σ T F env c x env'
  | .stuck => False
def SAs (es : Es) : TA := fun σ H Q => ∃ F env T acc accv, Gd B F σ ∧ WF env σ ∧ INV B.K F (er env σ ++ (avRs acc accv ++ T)) H ∧ AVoks env σ acc accv ∧
  poAs B σ T accv Q F env (evAs B.P B.cf B.hx es acc env)
def tB' (m conj : Bool) (es : Es) : TE := fun σ H Q => ∃ F env T, Gd B F σ ∧ WF env σ ∧ INV B.K F (er env σ ++ T) H ∧ poA B σ T Q F env (evB B.P B.cf B.hx m conj es env)
end

section
variable {B : Bd} {σ : St} {H : Hp}
theorem avRs_len {env : Env} {as : List AV} {vs : List V} (h : AVoks env σ as vs) : vs.length = as.length := by
  induction as generalizing vs with
  | nil => obtain rfl : vs = [] := h; rfl
  | cons a as ih =>
    obtain ⟨v, r, rfl, _, h2⟩ := h
    simp [ih h2]
theorem avRs_append {a : AV} {v : V} : ∀ {as : List AV} {vs : List V}, vs.length = as.length → avRs (as ++ [a]) (vs ++ [v]) = avRs as vs ++ avR a v
  | [], [], _ => by simp [avRs]
  | b :: as, w :: vs, h => by
    simp only [List.cons_append, avRs]
    rw [avRs_append (by simpa using h), List.append_assoc]
  | [], _ :: _, h => by simp at h
  | _ :: _, [], h => by simp at h
theorem avoks_append {env : Env} {a : AV} {v : V} (ha : AVok env σ a v) : ∀ {as : List AV} {vs : List V}, AVoks env σ as vs → AVoks env σ (as ++ [a]) (vs ++ [v])
  | [], vs, h => by
    obtain rfl : vs = [] := h
    exact ⟨v, [], rfl, ha, rfl⟩
  | b :: as, _, ⟨w, r, e, h1, h2⟩ => by
    subst e
    exact ⟨w, r ++ [v], rfl, h1, avoks_append ha h2⟩
theorem inv_swap {K : PySem.W.Frag} {F : Fz} {E A C T : List Root} (h : INV K F (E ++ (A ++ (C ++ T))) H) : INV K F (E ++ ((C ++ A) ++ T)) H :=
  h.perm (List.Perm.append_left E (by rw [← List.append_assoc]; exact List.Perm.append_right T List.perm_append_comm))
theorem inv_dropR {K : PySem.W.Frag} {F : Fz} {E A T : List Root} (h : INV K F (E ++ (A ++ T)) H) : INV K F (E ++ T) H := by
  have : INV K F (A ++ (E ++ T)) H := h.perm (by
    rw [← List.append_assoc, ← List.append_assoc]
    exact List.Perm.append_right T List.perm_append_comm)
  exact this.drops
theorem exO.mono {σ : St} {T T' : List Root} {F F' : Fz} {env env1 env' : Env} {c : Nat} {x : PV} (h : exO B σ T F env c x env') (le : F.le F') (k : KeepE env env1)
    (hT : ∀ {G H}, INV B.K G (er env' σ ++ T') H → INV B.K G (er env' σ ++ T) H) : exO B σ T' F' env1 c x env' :=
  fun G H' d vx l k' w i hd r => h G H' d vx (le.trans l) (k.trans k') w (hT i) hd r

/-- the first of some operands, then the others -/
theorem sas_cons {e : E} {es : Es} {Q : List V → Hp → Prop} (h : SAs B (.cons e es) σ H Q) : tE B e σ H fun x H1 => SAs B es σ H1 fun xs H2 => Q (x :: xs) H2 := by
  obtain ⟨F, env, T, acc, accv, l0, w, i, ok, h⟩ := h
  refine ⟨F, env, avRs acc accv ++ T, l0, w, i, ?_⟩
  rw [evAs] at h
  cases ha : evA B.P B.cf B.hx false e env with
  | stuck => rw [ha] at h; exact h
  | exc c x env' =>
    rw [ha] at h
    exact exO.mono (show exO B σ T F env c x env' from h) (.refl F) (.refl _) inv_dropR
  | ok a env1 =>
    rw [ha] at h
    intro F1 H1 v l1 k1 w1 i1 ok1
    have okk := AVoks.keep k1 ok
    have hl := avRs_len ok
    cases a with
    | val x d =>
      refine ⟨F1, env1, T, acc ++ [.val x d], accv ++ [v], l0.trans l1, w1, ?_, avoks_append (a := .val x d) (v := v) trivial okk, ?_⟩
      · rw [avRs_append hl]
        exact inv_swap i1
      · have h : poAs B σ T accv Q F env (evAs B.P B.cf B.hx es (acc ++ [.val x d]) env1) := h
        cases hs : evAs B.P B.cf B.hx es (acc ++ [.val x d]) env1 with
        | stuck => rw [hs] at h; exact h
        | exc c y env' => rw [hs] at h; exact fun G H' d vx l k' w' i' hd r => h G H' d vx (l1.trans l) (k1.trans k') w' i' hd r
        | ok as env' =>
          rw [hs] at h
          intro F2 H2 vs l2 k2 w2 i2 ok2
          have e : accv ++ [v] ++ vs = accv ++ (v :: vs) := by simp
          rw [e] at i2 ok2
          exact h F2 H2 (v :: vs) (l1.trans l2) (k1.trans k2) w2 i2 ok2
    | own j =>
      by_cases hn : noLent acc j = true
      · have h : poAs B σ T accv Q F env (if noLent acc j = true then evAs B.P B.cf B.hx es (acc ++ [.own j]) env1 else _) := h
        rw [if_pos hn] at h
        refine ⟨F1, env1, T, acc ++ [.own j], accv ++ [v], l0.trans l1, w1, ?_, avoks_append ok1 okk, ?_⟩
        · rw [avRs_append hl]
          exact inv_swap i1
        · cases hs : evAs B.P B.cf B.hx es (acc ++ [.own j]) env1 with
          | stuck => rw [hs] at h; exact h
          | exc c y env' => rw [hs] at h; exact fun G H' d vx l k' w' i' hd r => h G H' d vx (l1.trans l) (k1.trans k') w' i' hd r
          | ok as env' =>
            rw [hs] at h
            intro F2 H2 vs l2 k2 w2 i2 ok2
            have e : accv ++ [v] ++ vs = accv ++ (v :: vs) := by simp
            rw [e] at i2 ok2
            exact h F2 H2 (v :: vs) (l1.trans l2) (k1.trans k2) w2 i2 ok2
      · obtain ⟨⟨s, he⟩, hv⟩ := ok1
        have h : poAs B σ T accv Q F env (if noLent acc j = true then _ else match env1[j]? with
          | some (some s) => evAs B.P B.cf B.hx es (acc ++ [.val s.v 0]) (frz env1 j)
          | _ => .stuck) := h
        rw [if_neg hn, he] at h
        obtain ⟨F2, l2, r2, i2⟩ := INV.frz (R := avRs acc accv ++ T) i1 he hv
        refine ⟨F2, frz env1 j, T, acc ++ [.val s.v 0], accv ++ [v], (l0.trans l1).trans l2, frz_wf w1, ?_, avoks_append (a := .val s.v 0) (v := v) trivial (okk.keep frz_keep), ?_⟩
        · rw [avRs_append hl]
          exact inv_swap (i2.add0 r2).mid
        · have h : poAs B σ T accv Q F env (evAs B.P B.cf B.hx es (acc ++ [.val s.v 0]) (frz env1 j)) := h
          have k2 : KeepE env (frz env1 j) := k1.trans frz_keep
          cases hs : evAs B.P B.cf B.hx es (acc ++ [.val s.v 0]) (frz env1 j) with
          | stuck => rw [hs] at h; exact h
          | exc c y env' => rw [hs] at h; exact fun G H' d vx l k' w' i' hd r => h G H' d vx ((l1.trans l2).trans l) (k2.trans k') w' i' hd r
          | ok as env' =>
            rw [hs] at h
            intro F3 H2 vs l3 k3 w2 i3 ok2
            have e : accv ++ [v] ++ vs = accv ++ (v :: vs) := by simp
            rw [e] at i3 ok2
            exact h F3 H2 (v :: vs) ((l1.trans l2).trans l3) (k2.trans k3) w2 i3 ok2
theorem sas_nil {Q : List V → Hp → Prop} (h : SAs B .nil σ H Q) : Q [] H := by
  obtain ⟨F, env, T, acc, accv, l0, w, i, ok, h⟩ := h
  exact h F H [] (.refl F) (.refl env) w (by rwa [List.append_nil]) (by rwa [List.append_nil])
theorem sas1 {a : E} {Q : List V → Hp → Prop} (h : SAs B (.cons a .nil) σ H Q) : tE B a σ H fun x H1 => Q [x] H1 := by
  have h := sas_cons h
  obtain ⟨F, env, T, l0, w, i, h⟩ := h
  refine ⟨F, env, T, l0, w, i, ?_⟩
  cases ha : evA B.P B.cf B.hx false a env with
  | stuck => rw [ha] at h; exact h
  | exc c x env' => rw [ha] at h; exact h
  | ok a env1 => rw [ha] at h; exact fun F1 H1 v l1 k1 w1 i1 ok1 => sas_nil (h F1 H1 v l1 k1 w1 i1 ok1)
theorem SAs.mono {es : Es} {Q Q' : List V → Hp → Prop} (h : SAs B es σ H Q) (g : ∀ v H', Q v H' → Q' v H') : SAs B es σ H Q' := by
  obtain ⟨F, env, T, acc, accv, l0, w, i, ok, h⟩ := h
  refine ⟨F, env, T, acc, accv, l0, w, i, ok, ?_⟩
  cases ha : evAs B.P B.cf B.hx es acc env with
  | stuck => rw [ha] at h; exact h
  | exc c x env' => rw [ha] at h; exact h
  | ok a env1 => rw [ha] at h; exact fun F1 H1 v l1 k1 w1 i1 ok1 => g _ _ (h F1 H1 v l1 k1 w1 i1 ok1)
/-- weakening -/
theorem tE.mono {e : E} {Q Q' : VK} (h : tE B e σ H Q) (g : ∀ v H', Q v H' → Q' v H') : tE B e σ H Q' := by
  obtain ⟨F, env, T, l0, w, i, h⟩ := h
  refine ⟨F, env, T, l0, w, i, ?_⟩
  cases ha : evA B.P B.cf B.hx false e env with
  | stuck => rw [ha] at h; exact h
  | exc c x env' => rw [ha] at h; exact h
  | ok a env1 => rw [ha] at h; exact fun F1 H1 v l1 k1 w1 i1 ok1 => g _ _ (h F1 H1 v l1 k1 w1 i1 ok1)
theorem sas2 {a b : E} {Q : List V → Hp → Prop} (h : SAs B (.cons a (.cons b .nil)) σ H Q) : tE B a σ H fun x H1 => tE B b σ H1 fun y H2 => Q [x, y] H2 :=
  (sas_cons h).mono fun _ _ h => sas1 h
theorem INV.fr {K : PySem.W.Frag} {F : Fz} {R : List Root} (i : INV K F R H) : ∃ cs, Fr K F H cs := let ⟨cs, _, f⟩ := i; ⟨cs, f⟩

/-! ### what is done with operands -/
theorem prim_as {p : Prim} {es : Es} {Q : VK} (hd : isDisp p = false) (h : tE B (.prim p es) σ H Q) : SAs B es σ H fun vs H1 => rSem B.K p vs H1 Q := by
  obtain ⟨F, env, T, l0, w, i, h⟩ := h
  refine ⟨F, env, T, [], [], l0, w, i, rfl, ?_⟩
  rw [evA] at h
  by_cases hn : (B.hx.isSome && needsCalm p) = true
  · rw [if_pos hn] at h; exact h.elim
  rw [if_neg hn] at h
  cases hs : evAs B.P B.cf B.hx es [] env with
  | stuck => rw [hs] at h; exact h
  | exc c x env' => rw [hs] at h; exact h
  | ok as env' =>
    rw [hs] at h
    have h : poA B σ T Q F env (match (if isDisp p = true then settles as env' else (resolves env' as).map fun vs => (vs, env')) with
      | some (vs, env) => match prim p vs with
        | some r => .ok (.val (ofPRes r).1 (ofPRes r).2) env
        | none => .stuck
      | none => .stuck) := h
    rw [if_neg (by rw [hd]; decide)] at h
    intro F1 H1 vs l1 k1 w1 i1 ok1
    cases hr : resolves env' as with
    | none => rw [hr] at h; exact h.elim
    | some pvs =>
      rw [hr] at h
      dsimp only [Option.map] at h
      cases hp : prim p pvs with
      | none => simp only [hp] at h; exact h.elim
      | some r =>
        simp only [hp] at h
        obtain ⟨F2, l2, i2, rd⟩ := rdbs_of i1 ok1 hr
        obtain ⟨cs, f⟩ := i2.fr
        refine ⟨F2, cs, pvs, r, f, rd, hp, pres_of i2 fun F3 H3 v l3 i3 => ?_⟩
        exact h F3 H3 v ((l1.trans l2).trans l3) k1 w1 i3 trivial
/-- a display -/
theorem disp_as {p : Prim} {es : Es} {Q : VK} (hd : isDisp p = true) (h : tE B (.prim p es) σ H Q) : SAs B es σ H fun vs H1 => ∃ F pvs r, RepL F pvs vs ∧ prim p pvs = some r ∧ PRok F r H1 Q := by
  obtain ⟨F, env, T, l0, w, i, h⟩ := h
  refine ⟨F, env, T, [], [], l0, w, i, rfl, ?_⟩
  rw [evA] at h
  by_cases hn : (B.hx.isSome && needsCalm p) = true
  · rw [if_pos hn] at h; exact h.elim
  rw [if_neg hn] at h
  cases hs : evAs B.P B.cf B.hx es [] env with
  | stuck => rw [hs] at h; exact h
  | exc c x env' => rw [hs] at h; exact h
  | ok as env' =>
    rw [hs] at h
    have h : poA B σ T Q F env (match (if isDisp p = true then settles as env' else (resolves env' as).map fun vs => (vs, env')) with
      | some (vs, env) => match prim p vs with
        | some r => .ok (.val (ofPRes r).1 (ofPRes r).2) env
        | none => .stuck
      | none => .stuck) := h
    rw [if_pos hd] at h
    intro F1 H1 vs l1 k1 w1 i1 ok1
    simp only [List.nil_append] at i1 ok1
    cases hr : settles as env' with
    | none => rw [hr] at h; exact h.elim
    | some q =>
      obtain ⟨pvs, env2⟩ := q
      rw [hr] at h
      dsimp only at h
      cases hp : prim p pvs with
      | none => simp only [hp] at h; exact h.elim
      | some r =>
        simp only [hp] at h
        obtain ⟨F2, l2, rl, i2, w2, k2⟩ := settles_of i1 w1 ok1 hr
        exact ⟨F2, pvs, r, rl, hp, pres_of i2 fun F3 H3 v l3 i3 => h F3 H3 v ((l1.trans l2).trans l3) (k1.trans k2) w2 i3 trivial⟩
theorem prim_hot {p : Prim} {es : Es} {Q : VK} (hx : B.hx.isSome = true) (hn : needsCalm p = true) (h : tE B (.prim p es) σ H Q) : False := by
  obtain ⟨F, env, T, l0, w, i, h⟩ := h
  rw [evA, if_pos (by rw [hx, hn]; rfl)] at h
  exact h
theorem prim1 {p : Prim} {a : E} {Q : VK} (hd : isDisp p = false) (h : tE B (.prim p (.cons a .nil)) σ H Q) : tE B a σ H fun x H1 => rSem B.K p [x] H1 Q := sas1 (prim_as hd h)
theorem prim2 {p : Prim} {a b : E} {Q : VK} (hd : isDisp p = false) (h : tE B (.prim p (.cons a (.cons b .nil))) σ H Q) : tE B a σ H fun x H1 => tE B b σ H1 fun y H2 => rSem2 B.K p x y H2 Q := sas2 (prim_as hd h)

/-! ### truth -/
theorem truV_of {K : PySem.W.Frag} {F : Fz} {cs : Cells} {x : PV} {v : V} {b : Bool} (f : Fr K F H cs) (r : Rdb K F H x v) (h : truth x = some b) : TruV K v H b := by
  cases x with
  | non => obtain rfl := rdb_non r; cases h; rfl
  | bl c => obtain rfl := rdb_bl r; cases h; rfl
  | int i =>
    obtain rfl := rdb_int r
    simp only [truth, Option.some.injEq] at h
    show b = (i != 0)
    rw [← h]; by_cases z : i = 0 <;> simp [z]
  | lst xs =>
    obtain ⟨a, vs, rfl, h1, l⟩ := r
    refine .inl ⟨vs, .of h1, ?_⟩
    cases h
    have := l.length
    cases xs <;> cases vs <;> simp at this ⊢
  | tup xs =>
    obtain ⟨a, vs, rfl, h1, l⟩ := (by simpa only [Rdb, Rep] using r : ∃ a vs, v = .ref a ∧ F a (.tup vs) ∧ RepL F xs vs)
    refine .inr (.inl ⟨vs, sqT_of f h1, ?_⟩)
    cases h
    have := l.length
    cases xs <;> cases vs <;> simp at this ⊢
  | scr ns =>
    obtain ⟨a, ob, rfl, h1⟩ := (by simpa only [Rdb, Rep] using r : ∃ a ob, v = .ref a ∧ F a (.frz ob (.lst (ns.map V.int))))
    refine .inl ⟨_, sqS_of f h1, ?_⟩
    cases h
    cases ns <;> rfl
  | _ => cases h
/-- the truth of an operand, the operand kept -/
theorem tru_of {K : PySem.W.Frag} {F : Fz} {env : Env} {R : List Root} {a : AV} {v : V} {b : Bool} (i : INV K F (er env σ ++ (avR a v ++ R)) H) (ok : AVok env σ a v) (h : (resolve env a).bind truth = some b) : TruV K v H b := by
  cases hr : resolve env a with
  | none => rw [hr] at h; cases h
  | some x =>
    rw [hr] at h
    obtain ⟨F1, l1, i1, rd⟩ := rdb_of i ok hr
    obtain ⟨cs, f⟩ := i1.fr
    exact truV_of f rd h
theorem not_as {a : E} {Q : VK} (h : tE B (.not_ a) σ H Q) : tE B a σ H fun x H1 => ∃ k, TruV B.K x H1 k ∧ Q (.bl (!k)) H1 := by
  obtain ⟨F, env, T, l0, w, i, h⟩ := h
  refine ⟨F, env, T, l0, w, i, ?_⟩
  rw [evA] at h
  cases ha : evA B.P B.cf B.hx false a env with
  | stuck => rw [ha] at h; exact h
  | exc c x env' => rw [ha] at h; exact h
  | ok a env1 =>
    rw [ha] at h
    intro F1 H1 v l1 k1 w1 i1 ok1
    have h : poA B σ T Q F env (match (resolve env1 a).bind truth with
      | some b => .ok (.val (.bl (!b)) 0) env1
      | none => .stuck) := h
    cases hr : (resolve env1 a).bind truth with
    | none => rw [hr] at h; exact h.elim
    | some b =>
      rw [hr] at h
      exact ⟨b, tru_of i1 ok1 hr, h F1 H1 _ l1 k1 w1 (INV.add0 (inv_dropR i1) (rep_bl.mpr rfl)).mid trivial⟩
theorem bop1 {conj : Bool} {e : E} {Q : VK} (h : tB' B false conj (.cons e .nil) σ H Q) : tE B e σ H Q := by
  obtain ⟨F, env, T, l0, w, i, h⟩ := h
  refine ⟨F, env, T, l0, w, i, ?_⟩
  rw [evB] at h
  cases ha : evA B.P B.cf B.hx false e env <;> (rw [ha] at h; exact h)
theorem bop2 {conj : Bool} {e e' : E} {es : Es} {Q : VK} (h : tB' B false conj (.cons e (.cons e' es)) σ H Q) :
    tE B e σ H fun x H1 => ∃ k, TruV B.K x H1 k ∧ (if k = conj then tB' B false conj (.cons e' es) σ H1 Q else Q x H1) := by
  obtain ⟨F, env, T, l0, w, i, h⟩ := h
  refine ⟨F, env, T, l0, w, i, ?_⟩
  rw [evB] at h
  cases ha : evA B.P B.cf B.hx false e env with
  | stuck => rw [ha] at h; exact h
  | exc c x env' => rw [ha] at h; exact h
  | ok a env1 =>
    rw [ha] at h
    intro F1 H1 v l1 k1 w1 i1 ok1
    have h : poA B σ T Q F env (match (resolve env1 a).bind truth with
      | some b => if b = conj then evB B.P B.cf B.hx false conj (.cons e' es) env1 else .ok a env1
      | none => .stuck) := h
    cases hr : (resolve env1 a).bind truth with
    | none => rw [hr] at h; exact h.elim
    | some b =>
      rw [hr] at h
      refine ⟨b, tru_of i1 ok1 hr, ?_⟩
      by_cases hb : b = conj
      · rw [if_pos hb]
        simp only [if_pos hb] at h
        refine ⟨F1, env1, T, l0.trans l1, w1, inv_dropR i1, ?_⟩
        cases hs : evB B.P B.cf B.hx false conj (.cons e' es) env1 with
        | stuck => rw [hs] at h; exact h
        | exc c y env' => rw [hs] at h; exact fun G H' d vx l k' w' i' hd r => h G H' d vx (l1.trans l) (k1.trans k') w' i' hd r
        | ok as env' => rw [hs] at h; exact fun F2 H2 v l2 k2 w2 i2 ok2 => h F2 H2 v (l1.trans l2) (k1.trans k2) w2 i2 ok2
      · rw [if_neg hb]
        simp only [if_neg hb] at h
        exact h F1 H1 v l1 k1 w1 i1 ok1
end
end MP
set_option Elab.async false
set_option linter.all false
set_option maxRecDepth 100000
set_option maxHeartbeats 1000000
/-! M5: chained comparisons, tests, calls. -/
namespace MP
open PySem L2
section
variable {B : Bd} {σ : St} {H : Hp}

theorem rSem2_bl {K : PySem.W.Frag} {c : Cmp} {x y : V} {F : Fz} {cs : Cells} {u v : PV} {b : Bool} {Q : VK} (f : Fr K F H cs) (hu : Rdb K F H u x) (hv : Rdb K F H v y) (h : cmp2 c u v = some b) (q : Q (.bl b) H) : rSem2 K (.cmp c) x y H Q :=
  ⟨F, cs, [u, v], .old (.bl b), f, ⟨x, [y], rfl, hu, y, [], rfl, hv, rfl⟩, by simp [prim, h], fun w hw => by
    obtain rfl := rep_bl.mp hw
    exact q⟩
/-- two operands are compared, both kept -/
theorem cmp_of {K : PySem.W.Frag} {F : Fz} {env : Env} {R : List Root} {a a' : AV} {v v' : V} {x x' : PV} {c : Cmp} {b : Bool} {Q : VK} (i : INV K F (er env σ ++ (avR a' v' ++ (avR a v ++ R))) H) (ok : AVok env σ a v) (ok' : AVok env σ a' v')
    (h : resolve env a = some x) (h' : resolve env a' = some x') (hc : cmp2 c x x' = some b) (q : Q (.bl b) H) : rSem2 K (.cmp c) v v' H Q := by
  obtain ⟨F1, l1, i1, r1⟩ := rdb_of i ok' h'
  obtain ⟨F2, l2, i2, r2⟩ := rdb_of i1 ok h
  obtain ⟨cs, f⟩ := i2.fr
  exact rSem2_bl f r2 (r1.mono l2) hc q
theorem chn_as {c c' : Cmp} {x y z : E} {Q : VK} (h : tE B (.chn c c' x y z) σ H Q) :
    tE B x σ H fun a H1 => tE B y σ H1 fun b H2 => rSem2 B.K (.cmp c) a b H2 fun v H3 => ∃ k, v = .bl k ∧ (if k = true then tE B z σ H3 fun e H4 => rSem2 B.K (.cmp c') b e H4 Q else Q (.bl false) H3) := by
  obtain ⟨F, env, T, l0, w, i, h⟩ := h
  refine ⟨F, env, T, l0, w, i, ?_⟩
  rw [evA] at h
  cases ha : evA B.P B.cf B.hx false x env with
  | stuck => rw [ha] at h; exact h
  | exc c x env' => rw [ha] at h; exact h
  | ok a env1 =>
    rw [ha] at h
    intro F1 H1 v1 l1 k1 w1 i1 ok1
    refine ⟨F1, env1, avR a v1 ++ T, l0.trans l1, w1, i1, ?_⟩
    dsimp only [Out.bind] at h
    cases hb : evA B.P B.cf B.hx false y env1 with
    | stuck => rw [hb] at h; exact h
    | exc c x env' => rw [hb] at h; exact exO.mono (show exO B σ T F env c x env' from h) l1 k1 inv_dropR
    | ok b env2 =>
      rw [hb] at h
      intro F2 H2 v2 l2 k2 w2 i2 ok2
      dsimp only at h
      have ok1' := ok1.keep k2
      cases hr : resolve env2 a with
      | none => rw [hr] at h; exact h.elim
      | some u =>
        rw [hr] at h
        cases hr2 : resolve env2 b with
        | none => rw [hr2] at h; exact h.elim
        | some u2 =>
          rw [hr2] at h
          dsimp only at h
          cases hc : cmp2 c u u2 with
          | none => rw [hc] at h; exact h.elim
          | some r =>
            rw [hc] at h
            refine cmp_of i2 ok1' ok2 hr hr2 hc ⟨r, rfl, ?_⟩
            cases r with
            | false =>
              rw [if_neg (by decide)]
              exact h F2 H2 _ (l1.trans l2) (k1.trans k2) w2 (INV.add0 (inv_dropR (inv_dropR i2)) (rep_bl.mpr rfl)).mid trivial
            | true =>
              rw [if_pos rfl]
              have i3 : INV B.K F2 (er env2 σ ++ (avR b v2 ++ T)) H2 := by
                have := inv_swap (A := avR b v2) (C := avR a v1) (T := T) i2
                rw [List.append_assoc] at this
                exact inv_dropR this
              refine ⟨F2, env2, avR b v2 ++ T, (l0.trans l1).trans l2, w2, i3, ?_⟩
              dsimp only at h
              cases he : evA B.P B.cf B.hx false z env2 with
              | stuck => rw [he] at h; exact h
              | exc c x env' => rw [he] at h; exact exO.mono (show exO B σ T F env c x env' from h) (l1.trans l2) (k1.trans k2) inv_dropR
              | ok e env3 =>
                rw [he] at h
                intro F3 H3 v3 l3 k3 w3 i4 ok3
                dsimp only at h
                cases hr3 : resolve env3 b with
                | none => rw [hr3] at h; exact h.elim
                | some u3 =>
                  rw [hr3] at h
                  cases hr4 : resolve env3 e with
                  | none => rw [hr4] at h; exact h.elim
                  | some u4 =>
                    rw [hr4] at h
                    dsimp only at h
                    cases hc2 : cmp2 c' u3 u4 with
                    | none => rw [hc2] at h; exact h.elim
                    | some r2 =>
                      rw [hc2] at h
                      exact cmp_of i4 (ok2.keep k3) ok3 hr3 hr4 hc2 (h F3 H3 _ ((l1.trans l2).trans l3) ((k1.trans k2).trans k3) w3 (INV.add0 (inv_dropR (inv_dropR i4)) (rep_bl.mpr rfl)).mid trivial)

/-- three comparisons -/
theorem chn3_as {c c' c'' : Cmp} {x y z t : E} {Q : VK} (h : tE B (.chn3 c c' c'' x y z t) σ H Q) :
    tE B x σ H fun a H1 => tE B y σ H1 fun b H2 => rSem2 B.K (.cmp c) a b H2 fun v H3 => ∃ k, v = .bl k ∧ (if k = true then tE B z σ H3 fun e H4 => rSem2 B.K (.cmp c') b e H4 fun v H5 => ∃ k, v = .bl k ∧
      (if k = true then tE B t σ H5 fun g H6 => rSem2 B.K (.cmp c'') e g H6 Q else Q (.bl false) H5) else Q (.bl false) H3) := by
  obtain ⟨F, env, T, l0, w, i, h⟩ := h
  refine ⟨F, env, T, l0, w, i, ?_⟩
  rw [evA] at h
  cases ha : evA B.P B.cf B.hx false x env with
  | stuck => rw [ha] at h; exact h
  | exc c x env' => rw [ha] at h; exact h
  | ok a env1 =>
    rw [ha] at h
    intro F1 H1 v1 l1 k1 w1 i1 ok1
    refine ⟨F1, env1, avR a v1 ++ T, l0.trans l1, w1, i1, ?_⟩
    dsimp only [Out.bind] at h
    cases hb : evA B.P B.cf B.hx false y env1 with
    | stuck => rw [hb] at h; exact h
    | exc c x env' => rw [hb] at h; exact exO.mono (show exO B σ T F env c x env' from h) l1 k1 inv_dropR
    | ok b env2 =>
      rw [hb] at h
      intro F2 H2 v2 l2 k2 w2 i2 ok2
      dsimp only at h
      have ok1' := ok1.keep k2
      cases hr : resolve env2 a with
      | none => rw [hr] at h; exact h.elim
      | some u =>
        rw [hr] at h
        cases hr2 : resolve env2 b with
        | none => rw [hr2] at h; exact h.elim
        | some u2 =>
          rw [hr2] at h
          dsimp only at h
          cases hc : cmp2 c u u2 with
          | none => rw [hc] at h; exact h.elim
          | some r =>
            rw [hc] at h
            refine cmp_of i2 ok1' ok2 hr hr2 hc ⟨r, rfl, ?_⟩
            cases r with
            | false =>
              rw [if_neg (by decide)]
              exact h F2 H2 _ (l1.trans l2) (k1.trans k2) w2 (INV.add0 (inv_dropR (inv_dropR i2)) (rep_bl.mpr rfl)).mid trivial
            | true =>
              rw [if_pos rfl]
              have i3 : INV B.K F2 (er env2 σ ++ (avR b v2 ++ T)) H2 := by
                have := inv_swap (A := avR b v2) (C := avR a v1) (T := T) i2
                rw [List.append_assoc] at this
                exact inv_dropR this
              refine ⟨F2, env2, avR b v2 ++ T, (l0.trans l1).trans l2, w2, i3, ?_⟩
              dsimp only at h
              cases he : evA B.P B.cf B.hx false z env2 with
              | stuck => rw [he] at h; exact h
              | exc c x env' => rw [he] at h; exact exO.mono (show exO B σ T F env c x env' from h) (l1.trans l2) (k1.trans k2) inv_dropR
              | ok e env3 =>
                rw [he] at h
                intro F3 H3 v3 l3 k3 w3 i4 ok3
                dsimp only at h
                cases hr3 : resolve env3 b with
                | none => rw [hr3] at h; exact h.elim
                | some u3 =>
                  rw [hr3] at h
                  cases hr4 : resolve env3 e with
                  | none => rw [hr4] at h; exact h.elim
                  | some u4 =>
                    rw [hr4] at h
                    dsimp only at h
                    cases hc2 : cmp2 c' u3 u4 with
                    | none => rw [hc2] at h; exact h.elim
                    | some r2 =>
                      rw [hc2] at h
                      refine cmp_of i4 (ok2.keep k3) ok3 hr3 hr4 hc2 ⟨r2, rfl, ?_⟩
                      cases r2 with
                      | false =>
                        rw [if_neg (by decide)]
                        exact h F3 H3 _ ((l1.trans l2).trans l3) ((k1.trans k2).trans k3) w3 (INV.add0 (inv_dropR (inv_dropR i4)) (rep_bl.mpr rfl)).mid trivial
                      | true =>
                        rw [if_pos rfl]
                        have i5 : INV B.K F3 (er env3 σ ++ (avR e v3 ++ T)) H3 := by
                          have := inv_swap (A := avR e v3) (C := avR b v2) (T := T) i4
                          rw [List.append_assoc] at this
                          exact inv_dropR this
                        refine ⟨F3, env3, avR e v3 ++ T, ((l0.trans l1).trans l2).trans l3, w3, i5, ?_⟩
                        dsimp only at h
                        cases hg : evA B.P B.cf B.hx false t env3 with
                        | stuck => rw [hg] at h; exact h
                        | exc c x env' => rw [hg] at h; exact exO.mono (show exO B σ T F env c x env' from h) ((l1.trans l2).trans l3) ((k1.trans k2).trans k3) inv_dropR
                        | ok g env4 =>
                          rw [hg] at h
                          intro F4 H4 v4 l4 k4 w4 i6 ok4
                          dsimp only at h
                          cases hr5 : resolve env4 e with
                          | none => rw [hr5] at h; exact h.elim
                          | some u5 =>
                            rw [hr5] at h
                            cases hr6 : resolve env4 g with
                            | none => rw [hr6] at h; exact h.elim
                            | some u6 =>
                              rw [hr6] at h
                              dsimp only at h
                              cases hc3 : cmp2 c'' u5 u6 with
                              | none => rw [hc3] at h; exact h.elim
                              | some r3 =>
                                rw [hc3] at h
                                exact cmp_of i6 (ok3.keep k4) ok4 hr5 hr6 hc3 (h F4 H4 _ (((l1.trans l2).trans l3).trans l4) (((k1.trans k2).trans k3).trans k4) w4 (INV.add0 (inv_dropR (inv_dropR i6)) (rep_bl.mpr rfl)).mid trivial)

/-! ### slices -/
def tP (B : Bd) : Es → TO
  | .nil => tNoPart
  | .cons e .nil => tPart (tE B e)
  | .cons _ (.cons _ _) => fun _ _ _ => False
def poP (B : Bd) (σ : St) (T : List Root) (Q : Option Int → Hp → Prop) (F : Fz) (env : Env) : Out (Option Int) → Prop
  | .ok l env' => ∀ F' H', F.le F' → KeepE env env' → WF env' σ → INV B.K F' (er env' σ ++ T) H' → Q l H'
  | .exc c x env' => exO B σ T F env c x env'
  | .stuck => False
theorem tP_of {lo : Es} {F : Fz} {env : Env} {T : List Root} {Q : Option Int → Hp → Prop} (l0 : Gd B F σ) (w : WF env σ) (i : INV B.K F (er env σ ++ T) H) (h : poP B σ T Q F env (evP B.P B.cf B.hx lo env)) : tP B lo σ H Q := by
  match lo, h with
  | .nil, h =>
    rw [evP] at h
    exact h F H (.refl _) (.refl _) w i
  | .cons e .nil, h =>
    rw [evP] at h
    refine ⟨F, env, T, l0, w, i, ?_⟩
    cases ha : evA B.P B.cf B.hx false e env with
    | stuck => rw [ha] at h; exact h
    | exc c x env' => rw [ha] at h; exact h
    | ok a env1 =>
      rw [ha] at h
      intro F1 H1 v1 l1 k1 w1 i1 ok1
      dsimp only [Out.bind] at h
      cases hr : resolve env1 a with
      | none => rw [hr] at h; exact h.elim
      | some u =>
        rw [hr] at h
        cases u <;> first | exact h.elim | skip
        rename_i n
        obtain ⟨F2, l2, i2, r⟩ := rdb_of i1 ok1 hr
        exact ⟨n, rdb_int r, h F1 H1 l1 k1 w1 (inv_dropR i1)⟩
  | .cons e (.cons e2 es), h =>
    rw [evP] at h
    exact h.elim
def rSlc (K : PySem.W.Frag) (v : V) (l u : Option Int) (H : Hp) (Q : VK) : Prop := ∃ F cs x r, Fr K F H cs ∧ Rdb K F H x v ∧ cutP x l u = some r ∧ PRok F r H Q
theorem slc_as {x : E} {lo hi : Es} {Q : VK} (h : tE B (.slc x lo hi) σ H Q) : tSl (rSlc B.K) (tE B x) (tP B lo) (tP B hi) σ H Q := by
  obtain ⟨F, env, T, l0, w, i, h⟩ := h
  refine ⟨F, env, T, l0, w, i, ?_⟩
  rw [evA] at h
  cases ha : evA B.P B.cf B.hx false x env with
  | stuck => rw [ha] at h; exact h
  | exc c x env' => rw [ha] at h; exact h
  | ok a env1 =>
    rw [ha] at h
    intro F1 H1 v1 l1 k1 w1 i1 ok1
    refine tP_of (l0.trans l1) w1 i1 ?_
    dsimp only [Out.bind] at h
    cases hb : evP B.P B.cf B.hx lo env1 with
    | stuck => rw [hb] at h; exact h
    | exc c x env' => rw [hb] at h; exact exO.mono (show exO B σ T F env c x env' from h) l1 k1 inv_dropR
    | ok l env2 =>
      rw [hb] at h
      intro F2 H2 l2 k2 w2 i2
      refine tP_of ((l0.trans l1).trans l2) w2 i2 ?_
      dsimp only at h
      have ok1' := ok1.keep k2
      cases he : evP B.P B.cf B.hx hi env2 with
      | stuck => rw [he] at h; exact h
      | exc c x env' => rw [he] at h; exact exO.mono (show exO B σ T F env c x env' from h) (l1.trans l2) (k1.trans k2) inv_dropR
      | ok u env3 =>
        rw [he] at h
        intro F3 H3 l3 k3 w3 i3
        dsimp only at h
        cases hr : resolve env3 a with
        | none => rw [hr] at h; exact h.elim
        | some y =>
          rw [hr] at h
          dsimp only [Option.bind] at h
          cases hc : cutP y l u with
          | none => rw [hc] at h; exact h.elim
          | some r =>
            rw [hc] at h
            obtain ⟨F4, l4, i4, rd⟩ := rdb_of i3 (ok1'.keep k3) hr
            obtain ⟨cs, f⟩ := i4.fr
            exact ⟨F4, cs, y, r, f, rd, hc, pres_of i4 fun F5 H5 v l5 i5 => h F5 H5 v ((((l1.trans l2).trans l3).trans l4).trans l5) ((k1.trans k2).trans k3) w3 i5 trivial⟩

/-! ### tests -/
theorem tT.mono {e : E} {Q Q' : Bool → Hp → Prop} (h : tT B e σ H Q) (g : ∀ v H', Q v H' → Q' v H') : tT B e σ H Q' := by
  obtain ⟨F, env, T, l0, w, i, h⟩ := h
  refine ⟨F, env, T, l0, w, i, ?_⟩
  cases ha : tst B.P B.cf B.hx e env with
  | stuck => rw [ha] at h; exact h
  | exc c x env' => rw [ha] at h; exact h
  | ok a env1 => rw [ha] at h; exact fun F1 H1 l1 k1 w1 i1 => g _ _ (h F1 H1 l1 k1 w1 i1)
/-- a test by its value -/
theorem tT_val {e : E} {Q : Bool → Hp → Prop} (hm : ∀ env, evA B.P B.cf B.hx true e env = evA B.P B.cf B.hx false e env) (h : tT B e σ H Q) : tE B e σ H fun x H1 => ∃ k, TruV B.K x H1 k ∧ Q k H1 := by
  obtain ⟨F, env, T, l0, w, i, h⟩ := h
  refine ⟨F, env, T, l0, w, i, ?_⟩
  unfold tst at h
  rw [hm] at h
  cases ha : evA B.P B.cf B.hx false e env with
  | stuck => rw [ha] at h; exact h
  | exc c x env' => rw [ha] at h; exact h
  | ok a env1 =>
    rw [ha] at h
    intro F1 H1 v l1 k1 w1 i1 ok1
    dsimp only [Out.bind] at h
    cases hr : (resolve env1 a).bind truth with
    | none => rw [hr] at h; exact h.elim
    | some b => rw [hr] at h; exact ⟨b, tru_of i1 ok1 hr, h F1 H1 l1 k1 w1 (inv_dropR i1)⟩
/-- .. which is a bool -/
theorem tT_bl {e : E} {Q : Bool → Hp → Prop} (hm : ∀ env, evA B.P B.cf B.hx true e env = evA B.P B.cf B.hx false e env) (hb : ∀ env a env', evA B.P B.cf B.hx false e env = .ok a env' → ∃ b, a = .val (.bl b) 0) (h : tT B e σ H Q) :
    tE B e σ H fun x H1 => ∃ k, x = .bl k ∧ Q k H1 := by
  obtain ⟨F, env, T, l0, w, i, h⟩ := h
  refine ⟨F, env, T, l0, w, i, ?_⟩
  unfold tst at h
  rw [hm] at h
  cases ha : evA B.P B.cf B.hx false e env with
  | stuck => rw [ha] at h; exact h
  | exc c x env' => rw [ha] at h; exact h
  | ok a env1 =>
    rw [ha] at h
    obtain ⟨b, rfl⟩ := hb _ _ _ ha
    intro F1 H1 v l1 k1 w1 i1 ok1
    have e := rep_bl.mp (INV.rep0 (INV.unmid (r := ⟨.bl b, 0, v⟩) i1))
    exact ⟨b, e, h F1 H1 l1 k1 w1 (inv_dropR i1)⟩
theorem tT_not {a : E} {Q : Bool → Hp → Prop} (h : tT B (.not_ a) σ H Q) : tT B a σ H fun b H1 => Q (!b) H1 := by
  obtain ⟨F, env, T, l0, w, i, h⟩ := h
  refine ⟨F, env, T, l0, w, i, ?_⟩
  unfold tst at h ⊢
  rw [evA] at h
  cases ha : evA B.P B.cf B.hx true a env with
  | stuck => rw [ha] at h; exact h
  | exc c x env' => rw [ha] at h; exact h
  | ok a env1 =>
    rw [ha] at h
    dsimp only [Out.bind] at h ⊢
    cases hr : (resolve env1 a).bind truth with
    | none => rw [hr] at h; exact h.elim
    | some b => rw [hr] at h; exact fun F1 H1 l1 k1 w1 i1 => h F1 H1 l1 k1 w1 i1
/-- and, or as tests -/
def tTs (B : Bd) (conj : Bool) (es : Es) : TT := fun σ H Q => ∃ F env T, Gd B F σ ∧ WF env σ ∧ INV B.K F (er env σ ++ T) H ∧ poT B σ T Q F env ((evB B.P B.cf B.hx true conj es env).bind fun a env => match (resolve env a).bind truth with
  | some b => .ok b env
  | none => .stuck)
theorem tT_bop {conj : Bool} {es : Es} {Q : Bool → Hp → Prop} (h : tT B (.bop conj es) σ H Q) : tTs B conj es σ H Q := by
  obtain ⟨F, env, T, l0, w, i, h⟩ := h
  refine ⟨F, env, T, l0, w, i, ?_⟩
  unfold tst at h
  rwa [evA] at h
theorem tTs1 {conj : Bool} {e : E} {Q : Bool → Hp → Prop} (h : tTs B conj (.cons e .nil) σ H Q) : tT B e σ H Q := by
  obtain ⟨F, env, T, l0, w, i, h⟩ := h
  refine ⟨F, env, T, l0, w, i, ?_⟩
  rw [evB] at h
  unfold tst
  cases ha : evA B.P B.cf B.hx true e env <;> (rw [ha] at h; exact h)
theorem tTs2 {conj : Bool} {e e' : E} {es : Es} {Q : Bool → Hp → Prop} (h : tTs B conj (.cons e (.cons e' es)) σ H Q) :
    tT B e σ H fun b H1 => if b = conj then tTs B conj (.cons e' es) σ H1 Q else Q b H1 := by
  obtain ⟨F, env, T, l0, w, i, h⟩ := h
  refine ⟨F, env, T, l0, w, i, ?_⟩
  rw [evB] at h
  unfold tst
  cases ha : evA B.P B.cf B.hx true e env with
  | stuck => rw [ha] at h; exact h
  | exc c x env' => rw [ha] at h; exact h
  | ok a env1 =>
    rw [ha] at h
    dsimp only [Out.bind] at h ⊢
    cases hr : (resolve env1 a).bind truth with
    | none => rw [hr] at h; exact h.elim
    | some b =>
      rw [hr] at h
      intro F1 H1 l1 k1 w1 i1
      dsimp only at h
      by_cases hb : b = conj
      · rw [if_pos hb]
        rw [if_pos hb] at h
        refine ⟨F1, env1, T, l0.trans l1, w1, i1, ?_⟩
        cases hs : evB B.P B.cf B.hx true conj (.cons e' es) env1 with
        | stuck => rw [hs] at h; exact h
        | exc c y env' => rw [hs] at h; exact fun G H' d vx l k' w' i' hd r => h G H' d vx (l1.trans l) (k1.trans k') w' i' hd r
        | ok a2 env' =>
          rw [hs] at h
          dsimp only [Out.bind] at h ⊢
          cases hr2 : (resolve env' a2).bind truth with
          | none => rw [hr2] at h; exact h.elim
          | some b2 => rw [hr2] at h; exact fun F2 H2 l2 k2 w2 i2 => h F2 H2 (l1.trans l2) (k1.trans k2) w2 i2
      · rw [if_neg hb]
        rw [if_neg hb] at h
        exact h F1 H1 l1 k1 w1 i1

/-! ### calls -/
def argR : List Slot → List V → List Root
  | s :: ss, v :: vs => ⟨s.v, s.d, v⟩ :: argR ss vs
  | _, _ => []
def lentR : List Slot → List (PV × Nat) → List V → List Root
  | s :: ss, p :: ps, v :: vs => if s.l = true then ⟨p.1, p.2, v⟩ :: lentR ss ps vs else lentR ss ps vs
  | _, _, _ => []
/-- what a def promises: what its small text does -/
def spF (B : Bd) (f : Nat) : Sp := fun vs H Q E => ∃ F T ss, B.F0.le F ∧ ss.length = vs.length ∧ INV B.K F (argR ss vs ++ T) H ∧ match B.cf f ss with
  | .ret v d ps => ∀ F' H' u, F.le F' → INV B.K F' (⟨v, d, u⟩ :: (lentR ss ps vs ++ T)) H' → Q u H'
  | .exc c x ps => ∀ F' H' d vx, F.le F' → INV B.K F' (lentR ss ps vs ++ T) H' → ExH B.P F' c d vx → Rep F' x vx → E (.ref (B.ca c)) d H'
  | .stuck => False
def CfOk (cf : Nat → List Slot → CR) : Prop := ∀ f ss, match cf f ss with
  | .ret _ _ ps => ps.length = ss.length
  | .exc _ _ ps => ps.length = ss.length
  | .stuck => True
/-- the names that are lent hold something -/
def AVs (σ : St) : List AV → List V → Prop
  | [], vs => vs = []
  | a :: as, vs => ∃ v r, vs = v :: r ∧ (match a with | .own i => σ[i]? = some (some v) | _ => True) ∧ AVs σ as r
theorem AVoks.vs {env : Env} : ∀ {as : List AV} {vs : List V}, AVoks env σ as vs → AVs σ as vs
  | [], _, h => h
  | a :: as, _, ⟨v, r, e, h1, h2⟩ => ⟨v, r, e, by cases a with | own i => exact h1.2 | val x d => trivial, AVoks.vs h2⟩
theorem lend_inv {K : PySem.W.Frag} {F : Fz} : ∀ {as : List AV} {vs : List V} {env e : Env} {ss : List Slot} {R : List Root}, lend env as = some (ss, e) → AVs σ as vs → WF env σ → INV K F (er env σ ++ (avRs as vs ++ R)) H →
    ss.length = vs.length ∧ WF e σ ∧ INV K F (argR ss vs ++ (er e σ ++ R)) H
  | [], vs, env, e, ss, R, h, ok, w, i => by
    obtain rfl : vs = [] := ok
    cases h
    exact ⟨rfl, w, i⟩
  | .own j :: as, vs, env, e, ss, R, h, ok, w, i => by
    obtain ⟨v, r, rfl, hv, ok⟩ := ok
    simp only [lend] at h
    cases hj : env[j]? with
    | none => rw [hj] at h; cases h
    | some o =>
      cases o with
      | none => rw [hj] at h; cases h
      | some s =>
        rw [hj] at h
        dsimp only at h
        cases hl : lend (env.set j none) as with
        | none => rw [hl] at h; cases h
        | some p =>
          obtain ⟨ss', e'⟩ := p
          rw [hl] at h
          cases h
          have i1 : INV K F (er (env.set j none) σ ++ (avRs as r ++ (⟨s.v, s.d, v⟩ :: R))) H :=
            (INV.pick i hj hv).perm (by
              show (_ :: (er (env.set j none) σ ++ (avRs as r ++ R))).Perm _
              rw [← List.append_assoc, ← List.append_assoc]
              exact List.perm_middle.symm)
          obtain ⟨h1, h2, h3⟩ := lend_inv hl ok (w.setN j) i1
          refine ⟨by simp [h1], h2, h3.perm ?_⟩
          show (argR ss' r ++ (er e σ ++ (⟨s.v, s.d, v⟩ :: R))).Perm (⟨s.v, s.d, v⟩ :: (argR ss' r ++ (er e σ ++ R)))
          rw [← List.append_assoc, ← List.append_assoc]
          exact List.perm_middle
  | .val x d :: as, vs, env, e, ss, R, h, ok, w, i => by
    obtain ⟨v, r, rfl, _, ok⟩ := ok
    simp only [lend] at h
    cases hl : lend env as with
    | none => rw [hl] at h; cases h
    | some p =>
      obtain ⟨ss', e'⟩ := p
      rw [hl] at h
      cases h
      have i1 : INV K F (er env σ ++ (avRs as r ++ (⟨x, d, v⟩ :: R))) H := i.perm (by
        refine List.Perm.append_left _ ?_
        show (⟨x, d, v⟩ :: (avRs as r ++ R)).Perm _
        exact List.perm_middle.symm)
      obtain ⟨h1, h2, h3⟩ := lend_inv hl ok w i1
      refine ⟨by simp [h1], h2, h3.perm ?_⟩
      show (argR ss' r ++ (er e σ ++ (⟨x, d, v⟩ :: R))).Perm (⟨x, d, v⟩ :: (argR ss' r ++ (er e σ ++ R)))
      rw [← List.append_assoc, ← List.append_assoc]
      exact List.perm_middle
theorem lend_none {j : Nat} : ∀ {as : List AV} {env e : Env} {ss : List Slot}, lend env as = some (ss, e) → env[j]? = some none → e[j]? = some none ∧ ∀ o ps, (back o e as ps)[j]? = some none
  | [], env, e, ss, h, hj => by
    cases h
    exact ⟨hj, fun o ps => by cases ps <;> exact hj⟩
  | .own k :: as, env, e, ss, h, hj => by
    simp only [lend] at h
    cases hk : env[k]? with
    | none => rw [hk] at h; cases h
    | some o =>
      cases o with
      | none => rw [hk] at h; cases h
      | some s =>
        rw [hk] at h
        dsimp only at h
        cases hl : lend (env.set k none) as with
        | none => rw [hl] at h; cases h
        | some p =>
          obtain ⟨ss', e'⟩ := p
          rw [hl] at h
          cases h
          have ne : k ≠ j := fun z => by rw [z, hj] at hk; cases hk
          obtain ⟨h1, h2⟩ := lend_none (j := j) hl (by rw [List.getElem?_set_ne ne]; exact hj)
          refine ⟨h1, fun o ps => ?_⟩
          cases ps with
          | nil => exact h1
          | cons p ps =>
            show ((back o e as ps).set k _)[j]? = _
            rw [List.getElem?_set_ne ne]
            exact h2 o ps
  | .val x d :: as, env, e, ss, h, hj => by
    simp only [lend] at h
    cases hl : lend env as with
    | none => rw [hl] at h; cases h
    | some p =>
      obtain ⟨ss', e'⟩ := p
      rw [hl] at h
      cases h
      obtain ⟨h1, h2⟩ := lend_none (j := j) hl hj
      refine ⟨h1, fun o ps => ?_⟩
      cases ps with
      | nil => exact h1
      | cons p ps => exact h2 o ps
theorem back_len {o : Env} : ∀ {as : List AV} {e : Env} {ps : List (PV × Nat)}, (back o e as ps).length = e.length
  | [], e, ps => by cases ps <;> rfl
  | .own k :: as, e, [] => rfl
  | .own k :: as, e, p :: ps => by
    show ((back o e as ps).set k _).length = _
    rw [List.length_set]; exact back_len
  | .val x d :: as, e, [] => rfl
  | .val x d :: as, e, p :: ps => back_len (as := as)
theorem back_inv {K : PySem.W.Frag} {F : Fz} {o : Env} : ∀ {as : List AV} {vs : List V} {env e : Env} {ss : List Slot} {ps : List (PV × Nat)} {R : List Root}, lend env as = some (ss, e) → AVs σ as vs → WF env σ → (∀ (j : Nat) s, env[j]? = some (some s) → o[j]? = some (some s)) →
    ps.length = ss.length → INV K F (lentR ss ps vs ++ (er e σ ++ R)) H → WF (back o e as ps) σ ∧ INV K F (er (back o e as ps) σ ++ R) H ∧
      ∀ (j : Nat) s, env[j]? = some (some s) → ∃ s', (back o e as ps)[j]? = some (some s') ∧ s'.l = s.l
  | [], vs, env, e, ss, ps, R, h, ok, w, ho, hp, i => by
    cases h
    have e1 : ∀ ps, back o env [] ps = env := fun ps => by cases ps <;> rfl
    rw [e1]
    obtain rfl : vs = [] := ok
    have e2 : lentR [] ps [] = [] := by cases ps <;> rfl
    rw [e2] at i
    exact ⟨w, i, fun j s h => ⟨s, h, rfl⟩⟩
  | .own k :: as, vs, env, e, ss, ps, R, h, ok, w, ho, hp, i => by
    obtain ⟨v, r, rfl, hv, ok⟩ := ok
    simp only [lend] at h
    cases hk : env[k]? with
    | none => rw [hk] at h; cases h
    | some oo =>
      cases oo with
      | none => rw [hk] at h; cases h
      | some s =>
        rw [hk] at h
        dsimp only at h
        cases hl : lend (env.set k none) as with
        | none => rw [hl] at h; cases h
        | some p =>
          obtain ⟨ss', e'⟩ := p
          rw [hl] at h
          cases h
          match ps, hp with
          | p :: ps, hp =>
            have hkl : k < env.length := (List.getElem?_eq_some_iff.mp hk).1
            have i1 : INV K F (lentR ss' ps r ++ (er e σ ++ (⟨p.1, p.2, v⟩ :: R))) H := i.perm (by
              show (⟨p.1, p.2, v⟩ :: (lentR ss' ps r) ++ (er e σ ++ R)).Perm _
              rw [← List.append_assoc, ← List.append_assoc]
              exact List.perm_middle.symm)
            obtain ⟨h1, h2, h3⟩ := back_inv (o := o) hl ok (w.setN k) (fun j t hj => ho j t (by
              by_cases z : k = j
              · subst z; rw [List.getElem?_set_self hkl] at hj; cases hj
              · rwa [List.getElem?_set_ne z] at hj)) (by simpa using hp) i1
            have nk := (lend_none (j := k) hl (List.getElem?_set_self hkl)).2 o ps
            have eb : back o e (.own k :: as) (p :: ps) = (back o e as ps).set k (some ⟨p.1, p.2, s.l⟩) := by
              show (back o e as ps).set k _ = _
              rw [ho k s hk]
            rw [eb]
            refine ⟨h1.setS _ hv, ?_, fun j t hj => ?_⟩
            · refine INV.put (s := ⟨p.1, p.2, s.l⟩) ?_ (List.getElem?_eq_some_iff.mp nk).1 hv
              rw [set_none nk]
              exact h2.unmid
            · by_cases z : k = j
              · subst z
                rw [hk] at hj; cases hj
                exact ⟨_, List.getElem?_set_self (List.getElem?_eq_some_iff.mp nk).1, rfl⟩
              · rw [List.getElem?_set_ne z]
                exact h3 j t (by rwa [List.getElem?_set_ne z])
  | .val x d :: as, vs, env, e, ss, ps, R, h, ok, w, ho, hp, i => by
    obtain ⟨v, r, rfl, hv, ok⟩ := ok
    simp only [lend] at h
    cases hl : lend env as with
    | none => rw [hl] at h; cases h
    | some p =>
      obtain ⟨ss', e'⟩ := p
      rw [hl] at h
      cases h
      match ps, hp with
      | p :: ps, hp =>
        have i' : INV K F (lentR ss' ps r ++ (er e σ ++ R)) H := i
        have := back_inv (o := o) (as := as) (ss := ss') (ps := ps) hl ok w ho (by simpa using hp) i'
        exact this
theorem lend_len : ∀ {as : List AV} {env e : Env} {ss : List Slot}, lend env as = some (ss, e) → e.length = env.length
  | [], _, _, _, h => by cases h; rfl
  | .own k :: as, env, e, ss, h => by
    simp only [lend] at h
    cases hk : env[k]? with
    | none => rw [hk] at h; cases h
    | some o =>
      cases o with
      | none => rw [hk] at h; cases h
      | some s =>
        rw [hk] at h
        dsimp only at h
        cases hl : lend (env.set k none) as with
        | none => rw [hl] at h; cases h
        | some p =>
          rw [hl] at h
          cases h
          exact (lend_len hl).trans List.length_set
  | .val x d :: as, env, e, ss, h => by
    simp only [lend] at h
    cases hl : lend env as with
    | none => rw [hl] at h; cases h
    | some p =>
      rw [hl] at h
      cases h
      exact lend_len hl
theorem call_as {f : Nat} {es : Es} {Q : VK} (hc : CfOk B.cf) (hx : B.hx = none) (h : tE B (.call f es) σ H Q) : SAs B es σ H fun vs H1 => spF B f vs H1 Q (WE B.W σ) := by
  obtain ⟨F, env, T, l0, w, i, h⟩ := h
  refine ⟨F, env, T, [], [], l0, w, i, rfl, ?_⟩
  rw [evA, hx] at h
  simp only [Option.isSome_none, Bool.false_eq_true, if_false] at h
  rw [← hx] at h
  cases hs : evAs B.P B.cf B.hx es [] env with
  | stuck => rw [hs] at h; exact h
  | exc c x env' => rw [hs] at h; exact h
  | ok as env1 =>
    rw [hs] at h
    intro F1 H1 vs l1 k1 w1 i1 ok1
    dsimp only [Out.bind] at h
    simp only [List.nil_append] at i1 ok1
    cases hl : lend env1 as with
    | none => rw [hl] at h; exact h.elim
    | some p =>
      obtain ⟨ss, e⟩ := p
      rw [hl] at h
      dsimp only at h
      obtain ⟨h1, h2, h3⟩ := lend_inv hl ok1.vs w1 i1
      refine ⟨F1, er e σ ++ T, ss, l0.le.trans l1, h1, h3, ?_⟩
      have hcf := hc f ss
      cases hf : B.cf f ss with
      | stuck => rw [hf] at h; exact h
      | ret v d ps =>
        rw [hf] at h hcf
        intro F2 H2 u l2 i2
        have i2' : INV B.K F2 (lentR ss ps vs ++ (er e σ ++ (⟨v, d, u⟩ :: T))) H2 := i2.perm (by
          rw [← List.append_assoc, ← List.append_assoc]
          exact List.perm_middle.symm)
        obtain ⟨b1, b2, b3⟩ := back_inv (o := env1) hl ok1.vs w1 (fun _ _ h => h) hcf i2'
        exact h F2 H2 u (l1.trans l2) (k1.trans ⟨by rw [back_len]; exact lend_len hl, b3⟩) b1 b2 trivial
      | exc c x ps =>
        rw [hf] at h hcf
        intro F2 H2 d vx l2 i2 hd hr
        obtain ⟨b1, b2, b3⟩ := back_inv (o := env1) hl ok1.vs w1 (fun _ _ h => h) hcf i2
        exact h F2 H2 d vx (l1.trans l2) (k1.trans ⟨by rw [back_len]; exact lend_len hl, b3⟩) b1 b2 hd hr
end
end MP
set_option Elab.async false
set_option linter.all false
set_option maxRecDepth 100000
set_option maxHeartbeats 1000000
/-! M6: targets, what is walked, comprehensions. -/
namespace MP
open PySem L2

/-- what is lent stays, at its place -/
structure KeepS (env : Env) (σ : St) (env' : Env) (σ' : St) : Prop where
  len : env'.length = env.length
  keep : ∀ (i : Nat) s, env[i]? = some (some s) → s.l = true → (∃ s', env'[i]? = some (some s') ∧ s'.l = true) ∧ σ'[i]? = σ[i]?
theorem KeepS.refl (env : Env) (σ : St) : KeepS env σ env σ := ⟨rfl, fun _ s h l => ⟨⟨s, h, l⟩, rfl⟩⟩
theorem KeepS.trans {a b c : Env} {σ τ υ : St} (h : KeepS a σ b τ) (g : KeepS b τ c υ) : KeepS a σ c υ := ⟨g.len.trans h.len, fun i s e l => by
  obtain ⟨⟨t, e1, l1⟩, v1⟩ := h.keep i s e l
  obtain ⟨x, v2⟩ := g.keep i t e1 l1
  exact ⟨x, v2.trans v1⟩⟩
theorem KeepE.s {env env' : Env} (σ : St) (k : KeepE env env') : KeepS env σ env' σ := ⟨k.len, fun i s h l => by
  obtain ⟨s', e, l'⟩ := k.keep i s h
  exact ⟨⟨s', e, l'.trans l⟩, rfl⟩⟩
/-- the error's name, within its suite -/
def GdE (B : Bd) (env : Env) : Prop := ∀ j c x, B.hx = some (j, c, x) → ∃ s, env[j]? = some (some s) ∧ s.l = true
theorem GdE.keep {B : Bd} {env env' : Env} {σ σ' : St} (g : GdE B env) (k : KeepS env σ env' σ') : GdE B env' := fun j c x h => by
  obtain ⟨s, e, l⟩ := g j c x h
  exact (k.keep j s e l).1
theorem Gd.keep {B : Bd} {env env' : Env} {σ σ' : St} {F F' : Fz} (g : Gd B F σ) (ge : GdE B env) (k : KeepS env σ env' σ') (le : F.le F') : Gd B F' σ' := ⟨g.le.trans le, fun j c x h => by
  obtain ⟨s, e, l⟩ := ge j c x h
  rw [(k.keep j s e l).2]
  exact g.sg j c x h⟩

section
variable {B : Bd}
/-! ### targets -/
mutual
/-- the names of a target -/
def tn : T → List Nat
  | .nm i => [i]
  | .tup ts => tns ts
def tns : Ts → List Nat
  | .nil => []
  | .cons t ts => tn t ++ tns ts
end
structure Chg (l : List Nat) (σ σ' : St) : Prop where
  len : σ'.length = σ.length
  at_ : ∀ j, j ∉ l → σ'[j]? = σ[j]?
theorem Chg.trans {l m : List Nat} {a b c : St} (h : Chg l a b) (g : Chg m b c) : Chg (l ++ m) a c := ⟨g.len.trans h.len, fun j hj => by
  rw [List.mem_append, not_or] at hj
  exact (g.at_ j hj.2).trans (h.at_ j hj.1)⟩
def gT (B : Bd) (t : T) : TG := fun v σ H Q => ∃ F env T x d env', WF env σ ∧ INV B.K F (er env σ ++ (⟨x, d, v⟩ :: T)) H ∧ tgt t x d env = some env' ∧
  ∀ F' σ', F.le F' → KeepS env σ env' σ' → Chg (tn t) σ σ' → WF env' σ' → INV B.K F' (er env' σ' ++ T) H → Q σ' H
def gTs (B : Bd) (ts : Ts) : TGs := fun vs σ H Q => ∃ F env T xs env', WF env σ ∧ INV B.K F (er env σ ++ T) H ∧ RepL F xs vs ∧ tgts ts xs env = some env' ∧
  ∀ F' σ', F.le F' → KeepS env σ env' σ' → Chg (tns ts) σ σ' → WF env' σ' → INV B.K F' (er env' σ' ++ T) H → Q σ' H
theorem gT_nm {i : Nat} {v : V} {σ : St} {H : Hp} {Q : St → Hp → Prop} (h : gT B (.nm i) v σ H Q) : gName i v σ H Q := by
  obtain ⟨F, env, T, x, d, env', w, i0, h, q⟩ := h
  simp only [tgt] at h
  have fin : ∀ (hi : i < env.length) (hl : ∀ s, env[i]? = some (some s) → s.l = false), env' = env.set i (some ⟨x, d, false⟩) → gName i v σ H Q := by
    rintro hi hl rfl
    refine q F _ (.refl F) ⟨List.length_set, fun j s e l => ?_⟩ ⟨List.length_set, fun j hj => List.getElem?_set_ne fun z => hj (by rw [← z]; exact List.mem_singleton.mpr rfl)⟩ (w.store _ _ hi) ?_
    · have z : i ≠ j := fun z => by
        subst z
        rw [hl s e] at l; cases l
      exact ⟨⟨s, by rw [List.getElem?_set_ne z]; exact e, l⟩, List.getElem?_set_ne z⟩
    · refine INV.store (s := ⟨x, d, false⟩) ?_ hi w.len
      cases he : env[i]? with
      | none => exact absurd (List.getElem?_eq_none_iff.mp he) (by omega)
      | some o =>
        cases o with
        | none => rw [set_none he]; exact i0.unmid
        | some s =>
          obtain ⟨u, hu⟩ := w.val i s he
          have i1 := INV.pick (R := ⟨x, d, v⟩ :: T) i0 he hu
          exact i1.drop.unmid
  cases he : env[i]? with
  | none => rw [he] at h; cases h
  | some o =>
    have hi := (List.getElem?_eq_some_iff.mp he).1
    cases o with
    | none => rw [he] at h; cases h; exact fin hi (fun s e => by rw [he] at e; cases e) rfl
    | some s =>
      rw [he] at h
      dsimp only at h
      split at h
      · cases h
      · rename_i hl
        cases h
        exact fin hi (fun t e => by rw [he] at e; cases e; simpa using hl) rfl
theorem gT_tup {ts : Ts} {v : V} {σ : St} {H : Hp} {Q : St → Hp → Prop} (h : gT B (.tup ts) v σ H Q) : ∃ a vs xs, v = .ref a ∧ SqT B.K H a vs ∧ vs.length = xs.length ∧ (∃ env env', tgts ts xs env = some env') ∧ gTs B ts vs σ H Q := by
  obtain ⟨F, env, T, x, d, env', w, i0, h, q⟩ := h
  cases x <;> simp only [tgt] at h <;> try (cases h; done)
  rename_i xs
  obtain ⟨F1, l1, r1, i1⟩ := (INV.unmid (r := ⟨.tup xs, d, v⟩) i0).freeze
  obtain ⟨cs, f⟩ := i1.fr
  obtain ⟨a, vs, rfl, h1, l⟩ := (by simpa only [Rep] using r1 : ∃ a vs, v = .ref a ∧ F1 a (.tup vs) ∧ RepL F1 xs vs)
  exact ⟨a, vs, xs, rfl, sqT_of f h1, l.length, ⟨env, env', h⟩, F1, env, T, xs, env', w, i1.drop, l, h, fun F' σ' le => q F' σ' (l1.trans le)⟩
theorem gTs_nil {vs : List V} {σ : St} {H : Hp} {Q : St → Hp → Prop} (h : gTs B .nil vs σ H Q) : gNil vs σ H Q := by
  obtain ⟨F, env, T, xs, env', w, i0, l, h, q⟩ := h
  cases xs with
  | nil =>
    simp only [RepL] at l
    simp only [tgts] at h
    cases h
    exact ⟨l, q F σ (.refl F) (.refl _ _) ⟨rfl, fun _ _ => rfl⟩ w i0⟩
  | cons x xs => simp [tgts] at h
theorem gTs_cons {t : T} {ts : Ts} {vs : List V} {σ : St} {H : Hp} {Q : St → Hp → Prop} (h : gTs B (.cons t ts) vs σ H Q) : gCons (gT B t) (gTs B ts) vs σ H Q := by
  obtain ⟨F, env, T, xs, env', w, i0, l, h, q⟩ := h
  cases xs with
  | nil => simp [tgts] at h
  | cons x xs =>
    simp only [RepL] at l
    obtain ⟨v, r, rfl, h1, h2⟩ := l
    simp only [tgts] at h
    cases ht : tgt t x 0 env with
    | none => rw [ht] at h; cases h
    | some e1 =>
      rw [ht] at h
      refine ⟨v, r, rfl, F, env, T, x, 0, e1, w, (i0.add0 h1).mid, ht, fun F1 σ1 l1 k1 c1 w1 i1 => ?_⟩
      exact ⟨F1, e1, T, xs, env', w1, i1, RepL.mono l1 _ _ h2, h, fun F2 σ2 l2 k2 c2 w2 i2 => q F2 σ2 (l1.trans l2) (k1.trans k2) (c1.trans c2) w2 i2⟩

/-! ### what is walked -/
/-- J walks the values xs -/
def Walks (K : PySem.W.Frag) (F : Fz) (J : It) (xs : List PV) : Prop := ∃ G Y, Walk J xs.length G Y ∧ (∀ F' R H, F.le F' → INV K F' R H → G H) ∧
  ∀ i F' R H x H', i < xs.length → F.le F' → INV K F' R H → Y i H x H' → ∃ F2 pv, xs[i]? = some pv ∧ F'.le F2 ∧ INV K F2 (⟨pv, 0, x⟩ :: R) H'
def poI (B : Bd) (σ : St) (T : List Root) (R : It → Hp → Prop) (F : Fz) (env : Env) : Out (List PV) → Prop
  | .ok xs env' => ∀ F' H' J, F.le F' → KeepE env env' → WF env' σ → INV B.K F' (er env' σ ++ T) H' → Walks B.K F' J xs → R J H'
  | .exc c x env' => exO B σ T F env c x env'
  | .stuck => False
def tI (B : Bd) (it : MP.I) : TI := fun σ H R => ∃ F env T, Gd B F σ ∧ WF env σ ∧ INV B.K F (er env σ ++ T) H ∧ poI B σ T R F env (evI B.P B.cf B.hx it env)
theorem walks_list {K : PySem.W.Frag} {F : Fz} {a : Addr} {xs : List PV} {vs : List V} (l : RepL F xs vs) (hq : ∀ F' R H, F.le F' → INV K F' R H → SqL K H a vs) : Walks K F (Itl K a) xs := by
  refine ⟨fun H => SqL K H a vs, YAt vs, by rw [← l.length]; exact walk_list, hq, fun i F' R H x H' hi le inv y => ?_⟩
  obtain ⟨rfl, hx⟩ := y
  obtain ⟨v, hv, r⟩ := l.get (i := i) (x := xs[i]) (by simp [hi])
  rw [hx] at hv; cases hv
  exact ⟨F', xs[i], by simp [hi], .refl _, inv.add0 (Rep.mono le _ _ r)⟩
theorem walks_tup {K : PySem.W.Frag} {F : Fz} {a : Addr} {xs : List PV} {vs : List V} (l : RepL F xs vs) (hq : ∀ F' R H, F.le F' → INV K F' R H → SqT K H a vs) : Walks K F (Itt K a) xs := by
  refine ⟨fun H => SqT K H a vs, YAt vs, by rw [← l.length]; exact walk_tup, hq, fun i F' R H x H' hi le inv y => ?_⟩
  obtain ⟨rfl, hx⟩ := y
  obtain ⟨v, hv, r⟩ := l.get (i := i) (x := xs[i]) (by simp [hi])
  rw [hx] at hv; cases hv
  exact ⟨F', xs[i], by simp [hi], .refl _, inv.add0 (Rep.mono le _ _ r)⟩
theorem walks_range {K : PySem.W.Frag} {F : Fz} {lo : Int} {hi : Int} : Walks K F (Itr lo (hi - lo).toNat) (rangeL lo hi) := by
  refine ⟨fun _ => True, YFn fun i => .int (lo + i), by simpa [rangeL] using walk_range, fun _ _ _ _ _ => trivial, fun i F' R H x H' h le inv y => ?_⟩
  obtain ⟨rfl, rfl⟩ := y
  have h : i < (hi - lo).toNat := by simpa [rangeL] using h
  exact ⟨F', .int (lo + i), by simp [rangeL, h], .refl _, inv.add0 (rep_int.mpr rfl)⟩
theorem walks_str {K : PySem.W.Frag} {F : Fz} {z : Str} : Walks K F (Its z) (z.cps.toList.map fun c => PV.str ⟨#[c]⟩) := by
  refine ⟨fun _ => True, fun i H v H' => H' = H ∧ ∃ c, z.cps[i]? = some c ∧ v = V.str ⟨#[c]⟩, ⟨fun i H hi _ => ?_, fun H _ => ?_, fun i H x H' hi _ y => y⟩, fun _ _ _ _ _ => trivial, fun i F' R H x H' h le inv y => ?_⟩
  · show i < z.cps.size
    simpa using hi
  · show z.cps.size ≤ _
    simp
  · obtain ⟨rfl, c, hc, rfl⟩ := y
    refine ⟨F', .str ⟨#[c]⟩, ?_, .refl _, inv.add0 (rep_str.mpr rfl)⟩
    rw [List.getElem?_map, Array.getElem?_toList, hc]
    rfl
/-- e is walked: a list, a tuple or a text -/
def iSeq (K : PySem.W.Frag) (tl : TE) : TI := fun σ H R => tl σ H fun x H1 => (∃ a, x = .ref a ∧ ((∃ xs, SqL K H1 a xs ∧ R (Itl K a) H1) ∨ ∃ xs, SqT K H1 a xs ∧ R (Itt K a) H1)) ∨ ∃ z, x = .str z ∧ R (Its z) H1
theorem pi_seq {X : Cx} {tg l : Expr} {tl : TE} (hl : PE X l tl) : PI X tg l (iSeq X.K tl) := by
  refine ⟨fun pins s σ H R I h => ?_⟩
  refine thn (hl.run pins s σ H _ I h) fun v s1 ⟨x, H1, I1, r1, q1⟩ => ?_
  rcases q1 with ⟨a, e, q⟩ | ⟨z, e, q⟩
  case inr =>
    subst e
    obtain ⟨t, ht⟩ := (show ∃ t, v = Value.str z t from r1)
    subst ht
    cases ha : z.cps.all fun x => decide (x < 128) with
    | false => exact wpAny_pyIter_wide ha (pi_one I1 { cls := Value.type "str_iterator", data := Data.fields #[Value.str z t, Value.int 0 0] } (turn_str s1.heap.objs.size z t "str_iterator" (Or.inr rfl)) ⟨_, Heap.get?_push_size s1.heap rfl, rfl, rfl⟩ q)
    | true => exact wpAny_pyIter_ascii ha (pi_one I1 { cls := Value.type "str_ascii_iterator", data := Data.fields #[Value.str z t, Value.int 0 0] } (turn_str s1.heap.objs.size z t "str_ascii_iterator" (Or.inl rfl)) ⟨_, Heap.get?_push_size s1.heap rfl, rfl, rfl⟩ q)
  subst e
  cases r1
  rcases q with ⟨xs, hq, q⟩ | ⟨xs, hq, q⟩
  · obtain ⟨its, rv, p, hz⟩ := I1.list hq
    refine wpAny_pyIter_list p.isList ?_
    refine ⟨s1.heap.objs.size, [s1.heap.objs.size], _, _, H1, rfl, I1.kept (t' := s1.toks) fun b o e => Heap.get?_push_of_some _ e, turn_list a _, ⟨_, Heap.get?_push_size _ rfl, rfl, rfl⟩, fun b hb => ?_, q⟩
    have e : b = s1.heap.objs.size := by simpa using hb
    subst e
    exact I1.fpOk (Nat.le_refl _) (I1.hok.fresh (Nat.le_refl _))
  · obtain ⟨its, rv, p, hz⟩ := I1.tuple hq
    refine wpAny_pyIter_tuple (show s1.heap.IsTuple a its.toArray from p) ?_
    refine ⟨s1.heap.objs.size, [s1.heap.objs.size], _, _, H1, rfl, I1.kept (t' := s1.toks) fun b o e => Heap.get?_push_of_some _ e, turn_tuple a _, ⟨_, Heap.get?_push_size _ rfl, rfl, rfl⟩, fun b hb => ?_, q⟩
    have e : b = s1.heap.objs.size := by simpa using hb
    subst e
    exact I1.fpOk (Nat.le_refl _) (I1.hok.fresh (Nat.le_refl _))
theorem fr_of {K : PySem.W.Frag} {F : Fz} {R : List Root} {H : Hp} (i : INV K F R H) : ∃ cs, Fr K F H cs := let ⟨cs, _, f⟩ := i; ⟨cs, f⟩
theorem tI_ex {σ : St} {H : Hp} {e : E} {R : It → Hp → Prop} (h : tI B (.ex e) σ H R) : iSeq B.K (tE B e) σ H R := by
  obtain ⟨F, env, T, l0, w, i, h⟩ := h
  refine ⟨F, env, T, l0, w, i, ?_⟩
  rw [evI] at h
  cases ha : evA B.P B.cf B.hx false e env with
  | stuck => rw [ha] at h; exact h
  | exc c x env' => rw [ha] at h; exact h
  | ok a env1 =>
    rw [ha] at h
    intro F1 H1 v l1 k1 w1 i1 ok1
    dsimp only [Out.bind] at h
    cases hs : settle a env1 with
    | stuck => rw [hs] at h; exact h.elim
    | exc c x e' => cases a <;> simp only [settle] at hs <;> (try (cases hs; done)) ; split at hs <;> cases hs
    | ok x env2 =>
      rw [hs] at h
      dsimp only at h
      obtain ⟨F2, l2, r2, i2, w2, k2⟩ := settle_of i1 w1 ok1 hs
      cases x <;> simp only [itemsI, items] at h <;> try exact h.elim
      case str z =>
        obtain rfl := rep_str.mp r2
        exact .inr ⟨z, rfl, h F2 H1 _ (l1.trans l2) (k1.trans k2) w2 i2 walks_str⟩
      case tup xs =>
        obtain ⟨b, vs, rfl, h1, l⟩ := (by simpa only [Rep] using r2 : ∃ a vs, v = .ref a ∧ F2 a (.tup vs) ∧ RepL F2 xs vs)
        have hq : ∀ F' R H, F2.le F' → INV B.K F' R H → SqT B.K H b vs := fun F' R H le i => by
          obtain ⟨cs, f⟩ := fr_of i
          exact sqT_of f (le _ _ h1)
        exact .inl ⟨b, rfl, .inr ⟨vs, hq F2 _ H1 (.refl _) i2, h F2 H1 _ (l1.trans l2) (k1.trans k2) w2 i2 (walks_tup l hq)⟩⟩
      case lst xs =>
        obtain ⟨b, vs, rfl, h1, l⟩ := (by simpa only [Rep] using r2 : ∃ a vs, v = .ref a ∧ F2 a (.lst vs) ∧ RepL F2 xs vs)
        have hq : ∀ F' R H, F2.le F' → INV B.K F' R H → SqL B.K H b vs := fun F' R H le i => by
          obtain ⟨cs, f⟩ := fr_of i
          exact .of (sqL_of f (le _ _ h1))
        exact .inl ⟨b, rfl, .inl ⟨vs, hq F2 _ H1 (.refl _) i2, h F2 H1 _ (l1.trans l2) (k1.trans k2) w2 i2 (walks_list l hq)⟩⟩
      case scr ns =>
        obtain ⟨b, ob, rfl, h1⟩ := (by simpa only [Rep] using r2 : ∃ a ob, v = .ref a ∧ F2 a (.frz ob (.lst (ns.map V.int))))
        have hq : ∀ F' R H, F2.le F' → INV B.K F' R H → SqL B.K H b (ns.map V.int) := fun F' R H le i => by
          obtain ⟨cs, f⟩ := fr_of i
          exact sqS_of f (le _ _ h1)
        exact .inl ⟨b, rfl, .inl ⟨_, hq F2 _ H1 (.refl _) i2, h F2 H1 _ (l1.trans l2) (k1.trans k2) w2 i2 (walks_list (RepL.ints ns) hq)⟩⟩
end
end MP
set_option Elab.async false
set_option linter.all false
set_option maxRecDepth 100000
set_option maxHeartbeats 1000000
/-! M7: ranges, comprehensions. -/
namespace MP
open PySem L2
section
variable {B : Bd}
/-! ### ranges -/
def rgOne (R : It → Hp → Prop) (vs : List V) (H : Hp) : Prop := ∃ j : Int, vs = [.int j] ∧ -(2 ^ 62) ≤ j ∧ j < 2 ^ 62 ∧ R (Itr 0 j.toNat) H
def rgTwo (R : It → Hp → Prop) (vs : List V) (H : Hp) : Prop := ∃ i j : Int, vs = [.int i, .int j] ∧ (-(2 ^ 62) ≤ i ∧ i < 2 ^ 62 ∧ -(2 ^ 62) ≤ j ∧ j < 2 ^ 62) ∧ R (Itr i (j - i).toNat) H
def rgThree (R : It → Hp → Prop) (vs : List V) (H : Hp) : Prop := ∃ (i j c : Int) (n : Nat), vs = [.int i, .int j, .int c] ∧ RgC i j c n ∧ R (Itc i c n) H
theorem walks_rangeC {K : PySem.W.Frag} {F : Fz} {lo hi st : Int} : Walks K F (Itc lo st (rcount lo hi st)) (rangeS lo hi st) := by
  refine ⟨fun _ => True, YFn fun i => .int (lo + (i : Nat) * st), by simpa [rangeS] using walk_rangeC, fun _ _ _ _ _ => trivial, fun i F' R H x H' h le inv y => ?_⟩
  obtain ⟨rfl, rfl⟩ := y
  have h : i < rcount lo hi st := by simpa [rangeS] using h
  exact ⟨F', .int (lo + i * st), by simp [rangeS, h], .refl _, inv.add0 (rep_int.mpr rfl)⟩
theorem rgC_of {a b c : Int} (h : rngOk3 a b c = true) : RgC a b c (rcount a b c) := by
  unfold rngOk3 at h
  obtain ⟨a1, a2, b1, b2, c1, c2⟩ := of_decide_eq_true h
  have fit : ∀ i : Int, -(2 ^ 62) ≤ i → i < 2 ^ 62 → Builtin.Range.rangeFitsLong i = true := fun i h1 h2 => by
    show (decide (-2 ^ 63 ≤ i) && decide (i < 2 ^ 63)) = true
    rw [decide_eq_true (by omega), decide_eq_true (by omega)]
    exact rfl
  have sz : Builtin.Range.rangeSize a b c = (rcount a b c : Int) := by
    show (if c > 0 then if a < b then (b - a - 1) / c + 1 else 0 else _) = _
    rw [if_pos c1]
    unfold rcount
    by_cases h : a < b
    · rw [if_pos h, if_pos h]
      have := Int.ediv_nonneg (show 0 ≤ b - a - 1 by omega) (show 0 ≤ c by omega)
      omega
    · rw [if_neg h, if_neg h]; exact rfl
  have up : (rcount a b c : Int) < 2 ^ 62 := by
    unfold rcount
    by_cases h : a < b
    · rw [if_pos h]
      have := Int.ediv_nonneg (show 0 ≤ b - a - 1 by omega) (show 0 ≤ c by omega)
      have := Int.ediv_le_self c (show 0 ≤ b - a - 1 by omega)
      omega
    · rw [if_neg h]; decide
  refine ⟨by omega, by omega, ?_, sz⟩
  show (Builtin.Range.rangeFitsLong a && Builtin.Range.rangeFitsLong b && Builtin.Range.rangeFitsLong c && Builtin.Range.rangeFitsLong (Builtin.Range.rangeSize a b c) && (Builtin.Range.rangeSize a b c == 0 || if c > 0 then Builtin.Range.rangeFitsLong (b + (c - 1)) else _)) = true
  rw [fit a (by omega) (by omega), fit b (by omega) (by omega), fit c (by omega) (by omega), sz, fit _ (by omega) up, if_pos c1, fit (b + (c - 1)) (by omega) (by omega)]
  simp
theorem tI_rng {σ : St} {H : Hp} {es : Es} {R : It → Hp → Prop} (h : tI B (.rng es) σ H R) : SAs B es σ H fun vs H1 => rgOne R vs H1 ∨ rgTwo R vs H1 ∨ rgThree R vs H1 := by
  obtain ⟨F, env, T, l0, w, i, h⟩ := h
  refine ⟨F, env, T, [], [], l0, w, i, rfl, ?_⟩
  rw [evI] at h
  cases hs : evAs B.P B.cf B.hx es [] env with
  | stuck => rw [hs] at h; exact h
  | exc c x env' => rw [hs] at h; exact h
  | ok as env' =>
    rw [hs] at h
    intro F1 H1 vs l1 k1 w1 i1 ok1
    dsimp only [Out.bind] at h
    cases hr : resolves env' as with
    | none => rw [hr] at h; exact h.elim
    | some pvs =>
      rw [hr] at h
      obtain ⟨F2, l2, i2, rd⟩ := rdbs_of i1 ok1 hr
      simp only [List.nil_append] at rd
      match pvs, h, rd with
      | [.int n], h, rd =>
        dsimp only at h
        split at h
        · rename_i hn
          simp only [rngOk, Bool.and_eq_true, decide_eq_true_eq] at hn
          obtain ⟨v, r, rfl, h1, h2⟩ := rd
          obtain rfl := rdb_int h1
          obtain rfl : r = [] := h2
          refine .inl ⟨n, rfl, hn.1, hn.2, h F2 H1 _ (l1.trans l2) k1 w1 i2 ?_⟩
          have := @walks_range B.K F2 0 n
          rwa [Int.sub_zero] at this
        · exact h.elim
      | [.int a, .int b], h, rd =>
        dsimp only at h
        split at h
        · rename_i hn
          simp only [rngOk, Bool.and_eq_true, decide_eq_true_eq] at hn
          obtain ⟨v, r, rfl, h1, v2, r2, rfl, h2, h3⟩ := rd
          obtain rfl := rdb_int h1
          obtain rfl := rdb_int h2
          obtain rfl : r2 = [] := h3
          exact .inr (.inl ⟨a, b, rfl, ⟨hn.1.1, hn.1.2, hn.2.1, hn.2.2⟩, h F2 H1 _ (l1.trans l2) k1 w1 i2 walks_range⟩)
        · exact h.elim
      | [.int a, .int b, .int c], h, rd =>
        dsimp only at h
        split at h
        · rename_i hn
          obtain ⟨v, r, rfl, h1, v2, r2, rfl, h2, v3, r3, rfl, h3, h4⟩ := rd
          obtain rfl := rdb_int h1
          obtain rfl := rdb_int h2
          obtain rfl := rdb_int h3
          obtain rfl : r3 = [] := h4
          exact .inr (.inr ⟨a, b, c, _, rfl, rgC_of hn, h F2 H1 _ (l1.trans l2) k1 w1 i2 walks_rangeC⟩)
        · exact h.elim
theorem rng1_as {σ : St} {H : Hp} {a : E} {R : It → Hp → Prop} (h : tI B (.rng (.cons a .nil)) σ H R) : iRng1 (tCons (tE B a) tNil) σ H R :=
  (sas1 (tI_rng h)).mono fun v H1 h => by
    rcases h with h | ⟨i, j, e, _⟩ | ⟨i, j, c, n, e, _⟩
    · exact h
    · cases e
    · cases e
theorem rng2_as {σ : St} {H : Hp} {a b : E} {R : It → Hp → Prop} (h : tI B (.rng (.cons a (.cons b .nil))) σ H R) : iRng2 (tCons (tE B a) (tCons (tE B b) tNil)) σ H R :=
  (sas2 (tI_rng h)).mono fun v H1 h => h.mono fun v H1 h => by
    rcases h with ⟨i, e, _⟩ | h | ⟨i, j, c, n, e, _⟩
    · cases e
    · exact h
    · cases e
theorem rng3_as {σ : St} {H : Hp} {a b c : E} {R : It → Hp → Prop} (h : tI B (.rng (.cons a (.cons b (.cons c .nil)))) σ H R) : iRng3 (tCons (tE B a) (tCons (tE B b) (tCons (tE B c) tNil))) σ H R :=
  (sas_cons (tI_rng h)).mono fun v H1 h => (sas2 h).mono fun v H1 h => h.mono fun v H1 h => by
    rcases h with ⟨i, e, _⟩ | ⟨i, j, e, _⟩ | h
    · cases e
    · cases e
    · exact h

/-! ### comprehensions -/
theorem wipe_get {σ : St} {j : Nat} : ∀ {vs : List Nat}, j ∉ vs → (wipe σ vs)[j]? = σ[j]?
  | [], _ => rfl
  | v :: vs, h => by
    rw [List.mem_cons, not_or] at h
    show ((wipe σ vs).set v none)[j]? = _
    rw [List.getElem?_set_ne (Ne.symm h.1)]
    exact wipe_get h.2
theorem wipe_in {σ : St} {j : Nat} : ∀ {vs : List Nat}, j ∈ vs → (wipe σ vs)[j]? = if j < σ.length then some none else none
  | v :: vs, h => by
    show ((wipe σ vs).set v none)[j]? = _
    by_cases z : v = j
    · subst z
      by_cases hl : v < σ.length
      · rw [if_pos hl, List.getElem?_set_self (by rw [wipe_length]; exact hl)]
      · rw [if_neg hl]
        exact List.getElem?_eq_none (by rw [List.length_set, wipe_length]; omega)
    · rw [List.getElem?_set_ne z]
      rcases List.mem_cons.mp h with e | h
      · exact absurd e.symm z
      · exact wipe_in h
theorem wipe_same {σ σ2 : St} {vs l : List Nat} (c : Chg l (wipe σ vs) σ2) (h : ∀ j ∈ l, j ∈ vs) : wipe σ2 vs = wipe σ vs := by
  apply List.ext_getElem?
  intro j
  have e : σ2.length = σ.length := by rw [c.len, wipe_length]
  by_cases hj : j ∈ vs
  · rw [wipe_in hj, wipe_in hj, e]
  · rw [wipe_get hj, c.at_ j (fun z => hj (h j z))]
theorem clr_get {env : Env} {j : Nat} : ∀ {vs : List Nat}, j ∉ vs → (clr env vs)[j]? = env[j]?
  | [], _ => rfl
  | v :: vs, h => by
    rw [List.mem_cons, not_or] at h
    show ((clr env vs).set v none)[j]? = _
    rw [List.getElem?_set_ne (Ne.symm h.1)]
    exact clr_get h.2
theorem clr_in {env : Env} {j : Nat} {s : Slot} : ∀ {vs : List Nat}, j ∈ vs → (clr env vs)[j]? ≠ some (some s)
  | v :: vs, h => by
    show ((clr env vs).set v none)[j]? ≠ _
    by_cases z : v = j
    · subst z
      by_cases hl : v < (clr env vs).length
      · rw [List.getElem?_set_self hl]; simp
      · rw [List.getElem?_eq_none (by rw [List.length_set]; omega)]; simp
    · rw [List.getElem?_set_ne z]
      rcases List.mem_cons.mp h with e | h
      · exact absurd e.symm z
      · exact clr_in h
theorem clr_len {env : Env} : ∀ {vs : List Nat}, (clr env vs).length = env.length
  | [] => rfl
  | v :: vs => by
    show ((clr env vs).set v none).length = _
    rw [List.length_set]; exact clr_len
section
variable {K : PySem.W.Frag} {F : Fz} {R : List Root} {H : Hp} {σ : St}
theorem INV.setN {env : Env} {i : Nat} (w : WF env σ) (h : INV K F (er env σ ++ R) H) : INV K F (er (env.set i none) σ ++ R) H := by
  cases he : env[i]? with
  | none =>
    have : env.set i none = env := by
      apply List.ext_getElem?
      intro j
      by_cases z : i = j
      · subst z
        rw [he, List.getElem?_eq_none (by rw [List.length_set]; exact List.getElem?_eq_none_iff.mp he)]
      · rw [List.getElem?_set_ne z]
    rwa [this]
  | some o =>
    cases o with
    | none => rwa [set_none he]
    | some s =>
      obtain ⟨v, hv⟩ := w.val i s he
      exact (INV.pick h he hv).drop
theorem INV.clr {env : Env} (w : WF env σ) (h : INV K F (er env σ ++ R) H) : ∀ (vs : List Nat), WF (clr env vs) σ ∧ INV K F (er (clr env vs) σ ++ R) H
  | [] => ⟨w, h⟩
  | v :: vs => by
    obtain ⟨w1, i1⟩ := INV.clr w h vs
    exact ⟨w1.setN v, i1.setN w1⟩
/-- forgotten values behind names that hold nothing -/
theorem er_wipe {env : Env} : ∀ {vs : List Nat}, (∀ j ∈ vs, ∀ s, env[j]? ≠ some (some s)) → er env (wipe σ vs) = er env σ
  | [], _ => rfl
  | v :: vs, h => by
    show er env ((wipe σ vs).set v none) = _
    rw [← er_wipe (vs := vs) fun j hj => h j (List.mem_cons_of_mem _ hj)]
    by_cases hl : v < env.length
    · have e : env.set v none = env := set_none (by
        cases he : env[v]? with
        | none => exact absurd (List.getElem?_eq_none_iff.mp he) (by omega)
        | some o => cases o with
          | none => rfl
          | some s => exact absurd he (h v List.mem_cons_self s))
      have := er_set (env := env) (σ := wipe σ vs) (i := v) none
      rwa [e] at this
    · clear h
      generalize wipe σ vs = τ
      induction env generalizing v τ with
      | nil => rfl
      | cons a env ih =>
        cases τ with
        | nil => rfl
        | cons b τ =>
          cases v with
          | zero => simp at hl
          | succ v =>
            have := ih v (by simpa using hl) τ
            cases a <;> cases b <;> simp [er, this]
theorem INV.wipe {env : Env} {vs : List Nat} (hn : ∀ j ∈ vs, ∀ s, env[j]? ≠ some (some s)) : INV K F (er env (wipe σ vs) ++ R) H ↔ INV K F (er env σ ++ R) H := by rw [er_wipe hn]
theorem WF.wipe {env : Env} {vs : List Nat} (hn : ∀ j ∈ vs, ∀ s, env[j]? ≠ some (some s)) : WF env (wipe σ vs) ↔ WF env σ := by
  constructor
  · exact fun w => ⟨by rw [w.len, wipe_length], fun i s h => by
      obtain ⟨v, hv⟩ := w.val i s h
      exact ⟨v, (wipe_some hv).1⟩⟩
  · exact fun w => ⟨by rw [w.len, wipe_length], fun i s h => by
      obtain ⟨v, hv⟩ := w.val i s h
      exact ⟨v, by rw [wipe_get fun hj => hn i hj s h]; exact hv⟩⟩
/-- a frozen value comes back to its name -/
theorem INV.put0 {env : Env} {i : Nat} {s : Slot} {v : V} (w : WF env σ) (h : INV K F (er env σ ++ R) H) (hi : i < env.length) (hv : σ[i]? = some (some v)) (hd : s.d = 0) (r : Rep F s.v v) : INV K F (er (env.set i (some s)) σ ++ R) H := by
  refine INV.put ?_ hi hv
  rw [hd]
  exact (h.setN w).add0 r
end
theorem wipeE_clr {env : Env} : ∀ {vs : List Nat} {e : Env}, wipeE env vs = some e → e = clr env vs ∧ ∀ j ∈ vs, j < env.length ∧ ∀ s, env[j]? = some (some s) → s.d = 0 ∧ s.l = false
  | [], e, h => by cases h; exact ⟨rfl, fun j hj => absurd hj (by simp)⟩
  | v :: vs, e, h => by
    simp only [wipeE] at h
    cases hw : wipeE env vs with
    | none => rw [hw] at h; cases h
    | some e1 =>
      rw [hw] at h
      dsimp only at h
      obtain ⟨rfl, h2⟩ := wipeE_clr hw
      cases hv : env[v]? with
      | none => rw [hv] at h; cases h
      | some o =>
        have hl := (List.getElem?_eq_some_iff.mp hv).1
        cases o with
        | none =>
          rw [hv] at h; cases h
          refine ⟨rfl, fun j hj => ?_⟩
          rcases List.mem_cons.mp hj with rfl | hj
          · exact ⟨hl, fun s e => by rw [hv] at e; cases e⟩
          · exact h2 j hj
        | some s =>
          rw [hv] at h
          dsimp only at h
          split at h
          · rename_i hs
            cases h
            refine ⟨rfl, fun j hj => ?_⟩
            rcases List.mem_cons.mp hj with rfl | hj
            · exact ⟨hl, fun t e => by rw [hv] at e; cases e; exact hs⟩
            · exact h2 j hj
          · cases h
theorem unwipe_get {env new : Env} {j : Nat} : ∀ {vs : List Nat}, j ∉ vs → (unwipe env new vs)[j]? = new[j]?
  | [], _ => rfl
  | v :: vs, h => by
    rw [List.mem_cons, not_or] at h
    show ((unwipe env new vs).set v _)[j]? = _
    rw [List.getElem?_set_ne (Ne.symm h.1)]
    exact unwipe_get h.2
theorem unwipe_len {env new : Env} : ∀ {vs : List Nat}, (unwipe env new vs).length = new.length
  | [] => rfl
  | v :: vs => by
    show ((unwipe env new vs).set v _).length = _
    rw [List.length_set]; exact unwipe_len
theorem unwipe_in {env new : Env} {j : Nat} (hj2 : j < new.length) (hj3 : j < env.length) : ∀ {vs : List Nat}, j ∈ vs → (unwipe env new vs)[j]? = env[j]?
  | v :: vs, h => by
    show ((unwipe env new vs).set v _)[j]? = _
    by_cases z : v = j
    · subst z
      rw [List.getElem?_set_self (by rw [unwipe_len]; exact hj2)]
      cases he : env[v]? with
      | none => exact absurd (List.getElem?_eq_none_iff.mp he) (by omega)
      | some o => rfl
    · rw [List.getElem?_set_ne z]
      rcases List.mem_cons.mp h with e | h
      · exact absurd e.symm z
      · exact unwipe_in hj2 hj3 h
theorem unwipe_inv {K : PySem.W.Frag} {F : Fz} {R : List Root} {H : Hp} {σ : St} {env new : Env} (w : WF new σ) (hl : new.length = env.length) (i : INV K F (er new σ ++ R) H)
    : ∀ {vs : List Nat}, (∀ j ∈ vs, j < env.length ∧ ∀ s, env[j]? = some (some s) → s.d = 0 ∧ ∃ v, σ[j]? = some (some v) ∧ Rep F s.v v) → WF (unwipe env new vs) σ ∧ INV K F (er (unwipe env new vs) σ ++ R) H
  | [], _ => ⟨w, i⟩
  | v :: vs, h => by
    obtain ⟨w1, i1⟩ := unwipe_inv w hl i (vs := vs) fun j hj => h j (List.mem_cons_of_mem _ hj)
    obtain ⟨h1, h2⟩ := h v List.mem_cons_self
    show WF ((unwipe env new vs).set v (env[v]?.getD none)) σ ∧ INV K F (er ((unwipe env new vs).set v (env[v]?.getD none)) σ ++ R) H
    cases he : env[v]? with
    | none => exact absurd (List.getElem?_eq_none_iff.mp he) (by omega)
    | some o =>
      cases o with
      | none => exact ⟨w1.setN v, i1.setN w1⟩
      | some s =>
        obtain ⟨hd, u, hu, r⟩ := h2 s he
        exact ⟨w1.setS _ hu, INV.put0 w1 i1 (by rw [unwipe_len, hl]; exact h1) hu hd r⟩
mutual
theorem tgt_other : ∀ (t : T) {x : PV} {d : Nat} {env env' : Env} {j : Nat}, tgt t x d env = some env' → j ∉ tn t → env'[j]? = env[j]? ∧ env'.length = env.length
  | .nm i, x, d, env, env', j, h, hj => by
    have hij : i ≠ j := fun z => hj (by rw [← z]; exact List.mem_singleton.mpr rfl)
    simp only [tgt] at h
    cases he : env[i]? with
    | none => rw [he] at h; cases h
    | some o =>
      cases o with
      | none => rw [he] at h; cases h; exact ⟨List.getElem?_set_ne hij, List.length_set⟩
      | some s =>
        rw [he] at h
        dsimp only at h
        split at h <;> cases h
        exact ⟨List.getElem?_set_ne hij, List.length_set⟩
  | .tup ts, x, d, env, env', j, h, hj => by
    cases x <;> simp only [tgt] at h <;> try (cases h; done)
    exact tgts_other ts h hj
theorem tgts_other : ∀ (ts : Ts) {xs : List PV} {env env' : Env} {j : Nat}, tgts ts xs env = some env' → j ∉ tns ts → env'[j]? = env[j]? ∧ env'.length = env.length
  | .nil, [], env, env', j, h, hj => by simp only [tgts] at h; cases h; exact ⟨rfl, rfl⟩
  | .nil, _ :: _, env, env', j, h, hj => by simp [tgts] at h
  | .cons t ts, [], env, env', j, h, hj => by simp [tgts] at h
  | .cons t ts, x :: xs, env, env', j, h, hj => by
    simp only [tns, List.mem_append, not_or] at hj
    simp only [tgts] at h
    cases ht : tgt t x 0 env with
    | none => rw [ht] at h; cases h
    | some e1 =>
      rw [ht] at h
      obtain ⟨a1, b1⟩ := tgt_other t ht hj.1
      obtain ⟨a2, b2⟩ := tgts_other ts h hj.2
      exact ⟨a2.trans a1, b2.trans b1⟩
end

/-! ### the comprehension itself -/
/-- its block lets no error out -/
def Bd.blk (B : Bd) : Bd := { B with W := fun _ _ _ _ => False }
def tC1 (B : Bd) : Es → TT
  | .nil => tYes
  | .cons e _ => tT B e
/-- one turn -/
def lcStep (B : Bd) (elt : E) (tg : T) (ifs : Es) (own : List Nat) (x : PV) (e : Env) : Option (Option PV × Env) := match tgt tg x 0 e with
  | some e => match evTs B.P B.cf B.hx ifs e with
    | .ok true e => match evA B.P B.cf B.hx false elt e with
      | .ok a e => match settle a e with
        | .ok v e => some (some v, clr e own)
        | _ => none
      | _ => none
    | .ok false e => some (none, clr e own)
    | _ => none
  | none => none
/-- what stays between the turns -/
structure KeepX (own : List Nat) (env env' : Env) : Prop where
  len : env'.length = env.length
  keep : ∀ (j : Nat) s, j ∉ own → env[j]? = some (some s) → ∃ s', env'[j]? = some (some s') ∧ s'.l = s.l
theorem KeepX.clr {own : List Nat} {env env' : Env} (k : KeepX own env env') : KeepX own env (clr env' own) := ⟨by rw [clr_len]; exact k.len, fun j s hj h => by
  rw [clr_get hj]; exact k.keep j s hj h⟩
theorem KeepX.e {own : List Nat} {env env' env'' : Env} (k : KeepX own env env') (g : KeepE env' env'') : KeepX own env env'' := ⟨g.len.trans k.len, fun j s hj h => by
  obtain ⟨t, e, l⟩ := k.keep j s hj h
  obtain ⟨u, e2, l2⟩ := g.keep j t e
  exact ⟨u, e2, l2.trans l⟩⟩
theorem KeepX.t {own : List Nat} {env env' env'' : Env} {t : T} {x : PV} {d : Nat} (k : KeepX own env env') (h : tgt t x d env' = some env'') (hn : ∀ j ∈ tn t, j ∈ own) : KeepX own env env'' := by
  refine ⟨?_, fun j s hj h' => ?_⟩
  · by_cases ne : ∃ j, j ∉ tn t
    · obtain ⟨j, hj⟩ := ne
      exact (tgt_other t h hj).2.trans k.len
    · have : ∃ j, j ∉ tn t := ⟨(tn t).foldr (· + ·) 0 + 1, fun hm => by
        have : ∀ (l : List Nat) x, x ∈ l → x ≤ l.foldr (· + ·) 0 := by
          intro l
          induction l with
          | nil => intro x h; simp at h
          | cons a l ih =>
            intro x h
            simp only [List.foldr_cons]
            rcases List.mem_cons.mp h with rfl | h
            · omega
            · have := ih x h; omega
        have := this _ _ hm
        omega⟩
      exact absurd this ne
  · rw [(tgt_other t h fun z => hj (hn j z)).1]
    exact k.keep j s hj h'
theorem lc_as {σ : St} {H : Hp} {elt : E} {tg : T} {it : MP.I} {ifs : Es} {own : List Nat} {Q : VK} (hx : lcBad B.hx tg it own = false) (hif : ∀ a b c, ifs ≠ .cons a (.cons b c)) (hn : ∀ j ∈ tn tg, j ∈ own) (h : tE B (.lc elt tg it ifs own) σ H Q) :
    tLc (tI B it) (gT B.blk tg) (tC1 B.blk ifs) (tE B.blk elt) own σ H Q := by
  obtain ⟨F, env, T, l0, w, i, h⟩ := h
  refine ⟨F, env, T, l0, w, i, ?_⟩
  rw [evA, if_neg (by rw [hx]; decide)] at h
  cases hI : evI B.P B.cf B.hx it env with
  | stuck => rw [hI] at h; exact h
  | exc c x env' => rw [hI] at h; exact h
  | ok xs envI =>
    rw [hI] at h
    intro F1 H1 J l1 k1 w1 i1 wk D hD
    dsimp only [Out.bind] at h
    cases hw : wipeE envI own with
    | none => rw [hw] at h; exact h.elim
    | some env1 =>
      rw [hw] at h
      dsimp only at h
      obtain ⟨rfl, hown⟩ := wipeE_clr hw
      have h : poA B σ T Q F env (match compLoop (lcStep B elt tg ifs own) xs [] (clr envI own) with
        | some (ys, env2) => .ok (.val (.lst ys) 1) (unwipe envI env2 own)
        | none => .stuck) := h
      cases hL : compLoop (lcStep B elt tg ifs own) xs [] (clr envI own) with
      | none => rw [hL] at h; exact h.elim
      | some p =>
        obtain ⟨ys, envF⟩ := p
        rw [hL] at h
        dsimp only at h
        obtain ⟨G, Y, walk, hG, hY⟩ := wk
        -- the own names' values, for the end
        have hrep : ∀ j ∈ own, j < envI.length ∧ ∀ s, envI[j]? = some (some s) → s.d = 0 ∧ ∃ v, σ[j]? = some (some v) ∧ Rep F1 s.v v := fun j hj => by
          obtain ⟨h1, h2⟩ := hown j hj
          refine ⟨h1, fun s hs => ?_⟩
          obtain ⟨hd, _⟩ := h2 s hs
          obtain ⟨v, hv⟩ := w1.val j s hs
          have := INV.pick (R := T) i1 hs hv
          rw [hd] at this
          exact ⟨hd, v, hv, this.rep0⟩
        have nn : ∀ (e : Env), ∀ j ∈ own, ∀ s, (clr e own)[j]? ≠ some (some s) := fun e j hj s => clr_in hj
        let Pv : Nat → Hp → Prop := fun n H => ∃ F2 e2 acc, F1.le F2 ∧ WF e2 (wipe σ own) ∧ (∀ j ∈ own, ∀ s, e2[j]? ≠ some (some s)) ∧ KeepX own envI e2 ∧
          INV B.K F2 (er e2 (wipe σ own) ++ (⟨.lst acc, 1, .ref D⟩ :: T)) H ∧ compLoop (lcStep B elt tg ifs own) (xs.drop n) acc e2 = some (ys, envF)
        refine lc_it walk Pv ?_ (fun n H _ ⟨F2, e2, acc, a1, a2, a3, a4, a5, a6⟩ => hG F2 _ H a1 a5) ?_ ?_
        · obtain ⟨w2, i2⟩ := INV.clr (R := T) w1 i1 own
          refine ⟨F1, clr envI own, [], .refl _, (WF.wipe (nn envI)).mpr w2, nn envI, ⟨clr_len, fun j s hj hs => ⟨s, by rw [clr_get hj]; exact hs, rfl⟩⟩, ?_, by rw [List.drop_zero]; exact hL⟩
          exact (((INV.wipe (nn envI)).mpr i2).newL hD RepL.nil).mid
        · rintro n x H2 H3 hlt ⟨F2, e2, acc, a1, a2, a3, a4, a5, a6⟩ y
          obtain ⟨F3, pv, hpv, l3, i3⟩ := hY n F2 _ H2 x H3 hlt a1 a5 y
          have hdr : xs.drop n = pv :: xs.drop (n + 1) := by
            have hl : n < xs.length := (List.getElem?_eq_some_iff.mp hpv).1
            rw [List.drop_eq_getElem_cons hl]
            have : xs[n] = pv := by have := hpv; rw [List.getElem?_eq_getElem hl] at this; exact Option.some.inj this
            rw [this]
          rw [hdr] at a6
          simp only [compLoop, lcStep] at a6
          cases ht : tgt tg pv 0 e2 with
          | none => rw [ht] at a6; cases a6
          | some e3 =>
            rw [ht] at a6
            dsimp only at a6
            refine ⟨F3, e2, ⟨.lst acc, 1, .ref D⟩ :: T, pv, 0, e3, a2, i3.mid, ht, fun F4 σ4 l4 k4 c4 w4 i4 => ⟨wipe_same c4 hn, ?_⟩⟩
            have kx4 : KeepX own envI e3 := a4.t ht hn
            have g4 : Gd B.blk F4 σ4 := ⟨(l0.le.trans l1).trans (a1.trans (l3.trans l4)), fun j c x e => by
              have e : B.hx = some (j, c, x) := e
              have hj : j ∉ own := fun z => by
                have hz : own.contains j = true := List.contains_iff_mem.mpr z
                rw [e] at hx
                simp [lcBad, z] at hx
              rw [c4.2 j (fun z => hj (hn j z)), wipe_get hj]
              exact l0.sg j c x e⟩
            -- the end of a turn
            have fin : ∀ {F5 : Fz} {e5 : Env} {H5 : Hp} {acc' : List PV}, F4.le F5 → KeepE e3 e5 → WF e5 σ4 → INV B.K F5 (er e5 σ4 ++ (⟨.lst acc', 1, .ref D⟩ :: T)) H5 → compLoop (lcStep B elt tg ifs own) (xs.drop (n + 1)) acc' (clr e5 own) = some (ys, envF) → Pv (n + 1) H5 := by
              intro F5 e5 H5 acc' l5 k5 w5 i5 hc
              obtain ⟨w6, i6⟩ := INV.clr w5 i5 own
              have hs : wipe σ4 own = wipe σ own := wipe_same c4 hn
              refine ⟨F5, clr e5 own, acc', (a1.trans (l3.trans l4)).trans l5, ?_, nn e5, (kx4.e k5).clr, ?_, hc⟩
              · rw [← hs]; exact (WF.wipe (nn e5)).mpr w6
              · rw [← hs]; exact (INV.wipe (nn e5)).mpr i6
            -- the element
            have body : ∀ {F5 : Fz} {e5 : Env} {H5 : Hp}, F4.le F5 → KeepE e3 e5 → WF e5 σ4 → INV B.K F5 (er e5 σ4 ++ (⟨.lst acc, 1, .ref D⟩ :: T)) H5 →
                (match (match evA B.P B.cf B.hx false elt e5 with
                  | .ok a e => match settle a e with
                    | .ok v e => some (some v, clr e own)
                    | _ => none
                  | _ => none) with
                  | some (some y, e) => if acc.length < sizeMax then compLoop (lcStep B elt tg ifs own) (xs.drop (n + 1)) (acc ++ [y]) e else none
                  | some (none, e) => compLoop (lcStep B elt tg ifs own) (xs.drop (n + 1)) acc e
                  | none => none) = some (ys, envF) →
                tE B.blk elt σ4 H5 fun y H4 => ∃ acc, H4 D = some (.lst acc) ∧ acc.length < sizeLine ∧ Pv (n + 1) (upd H4 D (.lst (acc ++ [y]))) := by
              intro F5 e5 H5 l5 k5 w5 i5 hc
              refine ⟨F5, e5, ⟨.lst acc, 1, .ref D⟩ :: T, g4.trans l5, w5, i5, ?_⟩
              show poA B.blk σ4 _ _ F5 e5 (evA B.P B.cf B.hx false elt e5)
              cases he : evA B.P B.cf B.hx false elt e5 with
              | stuck => rw [he] at hc; cases hc
              | exc c x e' => rw [he] at hc; cases hc
              | ok a e6 =>
                rw [he] at hc
                dsimp only at hc
                intro F6 H6 v l6 k6 w6 i6 ok6
                cases hs : settle a e6 with
                | stuck => rw [hs] at hc; cases hc
                | exc c x e' => rw [hs] at hc; cases hc
                | ok z e7 =>
                  rw [hs] at hc
                  dsimp only at hc
                  by_cases hz : acc.length < sizeMax
                  · rw [if_pos hz] at hc
                    obtain ⟨F7, l7, r7, i7, w7, k7⟩ := settle_of i6 w6 ok6 hs
                    obtain ⟨F8, l8, i8, a, vs, e, hl, r8⟩ := i7.unmid.atL
                    cases e
                    refine ⟨vs, hl, ?_, ?_⟩
                    · rw [r8.length]; exact Nat.lt_of_lt_of_le hz (by decide)
                    · have i9 := i8.setL (r8.append (RepL.one (Rep.mono l8 _ _ r7)))
                      exact fin (((l5.trans l6).trans l7).trans l8) ((k5.trans k6).trans k7) w7 i9.mid hc
                  · rw [if_neg hz] at hc; cases hc
            cases ifs with
            | nil =>
              simp only [evTs] at a6
              simp only [tC1, tYes]
              rw [if_pos trivial]
              exact body (.refl _) (.refl _) w4 i4 a6
            | cons c cs =>
              cases cs with
              | cons c2 cs => exact absurd rfl (hif _ _ _)
              | nil =>
                simp only [evTs] at a6
                show tT B.blk c σ4 H3 _
                refine ⟨F4, e3, ⟨.lst acc, 1, .ref D⟩ :: T, g4, w4, i4, ?_⟩
                show poT B.blk σ4 _ _ F4 e3 (tst B.P B.cf B.hx c e3)
                unfold tst
                cases he : evA B.P B.cf B.hx true c e3 with
                | stuck => rw [he] at a6; cases a6
                | exc c x e' => rw [he] at a6; cases a6
                | ok a e5 =>
                  rw [he] at a6
                  dsimp only [Out.bind] at a6 ⊢
                  cases hr : (resolve e5 a).bind truth with
                  | none => rw [hr] at a6; cases a6
                  | some b =>
                    rw [hr] at a6
                    intro F5 H5 l5 k5 w5 i5
                    cases b with
                    | true =>
                      rw [if_pos rfl]
                      simp only [if_true] at a6
                      exact body l5 k5 w5 i5 a6
                    | false =>
                      rw [if_neg (by decide)]
                      simp only [Bool.false_eq_true, if_false] at a6
                      exact fin l5 k5 w5 i5 a6
        · rintro H2 ⟨F2, e2, acc, a1, a2, a3, a4, a5, a6⟩
          rw [List.drop_length] at a6
          simp only [compLoop, Option.some.injEq, Prod.mk.injEq] at a6
          obtain ⟨rfl, rfl⟩ := a6
          have w3 := (WF.wipe a3).mp a2
          have i3 := (INV.wipe a3).mp a5
          obtain ⟨w4, i4⟩ := unwipe_inv w3 a4.len i3 (vs := own) fun j hj => by
            obtain ⟨h1, h2⟩ := hrep j hj
            refine ⟨h1, fun s hs => ?_⟩
            obtain ⟨hd, v, hv, r⟩ := h2 s hs
            exact ⟨hd, v, hv, Rep.mono a1 _ _ r⟩
          refine h F2 H2 (.ref D) (l1.trans a1) (k1.trans ⟨by rw [unwipe_len]; exact a4.len, fun j s hs => ?_⟩) w4 i4 trivial
          by_cases hj : j ∈ own
          · exact ⟨s, by rw [unwipe_in (by rw [a4.len]; exact (hown j hj).1) (hown j hj).1 hj]; exact hs, rfl⟩
          · rw [unwipe_get hj]
            exact a4.keep j s hj hs
end
end MP
set_option Elab.async false
set_option linter.all false
set_option maxRecDepth 100000
set_option maxHeartbeats 1000000
/-! M8: statements. -/
namespace MP
open PySem L2
section
variable (B : Bd)
def poS (D : Ends) (σ : St) (T : List Root) (F : Fz) (env : Env) : SO → Prop
  | .next env' => ∀ F' σ' H', F.le F' → KeepS env σ env' σ' → WF env' σ' → INV B.K F' (er env' σ' ++ T) H' → D.nx σ' H'
  | .brk env' => ∀ F' σ' H', F.le F' → KeepS env σ env' σ' → WF env' σ' → INV B.K F' (er env' σ' ++ T) H' → D.bk σ' H'
  | .cnt env' => ∀ F' σ' H', F.le F' → KeepS env σ env' σ' → WF env' σ' → INV B.K F' (er env' σ' ++ T) H' → D.ct σ' H'
  | .ret v d env' => ∀ F' σ' H' u, F.le F' → KeepS env σ env' σ' → WF env' σ' → INV B.K F' (er env' σ' ++ (⟨v, d, u⟩ :: T)) H' → D.rt u H'
  | .exc c x env' => ∀ F' σ' H' d vx, F.le F' → KeepS env σ env' σ' → WF env' σ' → INV B.K F' (er env' σ' ++ T) H' → ExH B.P F' c d vx → Rep F' x vx → B.W (.ref (B.ca c)) d σ' H'
  | .stuck => False
/-- where a piece of a body starts -/
structure St0 (F : Fz) (env : Env) (T : List Root) (σ : St) (H : Hp) : Prop where
  gd : Gd B F σ
  ge : GdE B env
  wf : WF env σ
  inv : INV B.K F (er env σ ++ T) H
def tS (s : S) : TS := fun D σ H => ∃ F env T, St0 B F env T σ H ∧ poS B D σ T F env (exS B.P B.cf B.hx s env)
def tSs (ss : Ss) : TS := fun D σ H => ∃ F env T, St0 B F env T σ H ∧ poS B D σ T F env (exSs B.P B.cf B.hx ss env)
end
section
variable {B : Bd} {σ : St} {H : Hp} {D : Ends}
theorem St0.next {F F' : Fz} {env env' : Env} {T T' : List Root} {σ' : St} {H' : Hp} (s : St0 B F env T σ H) (l : F.le F') (k : KeepS env σ env' σ') (w : WF env' σ') (i : INV B.K F' (er env' σ' ++ T') H') : St0 B F' env' T' σ' H' :=
  ⟨s.gd.keep s.ge k l, s.ge.keep k, w, i⟩
/-- from a later point -/
theorem poS.from {T : List Root} {F F' : Fz} {env env' : Env} {σ' : St} {o : SO} (h : poS B D σ T F env o) (l : F.le F') (k : KeepS env σ env' σ') : poS B D σ' T F' env' o := by
  cases o with
  | next e => exact fun G σ2 H2 l2 k2 => h G σ2 H2 (l.trans l2) (k.trans k2)
  | brk e => exact fun G σ2 H2 l2 k2 => h G σ2 H2 (l.trans l2) (k.trans k2)
  | cnt e => exact fun G σ2 H2 l2 k2 => h G σ2 H2 (l.trans l2) (k.trans k2)
  | ret v d e => exact fun G σ2 H2 u l2 k2 => h G σ2 H2 u (l.trans l2) (k.trans k2)
  | exc c x e => exact fun G σ2 H2 d vx l2 k2 => h G σ2 H2 d vx (l.trans l2) (k.trans k2)
  | stuck => exact h
theorem poS.exo {T : List Root} {F : Fz} {env env' : Env} {c : Nat} {x : PV} (h : poS B D σ T F env (.exc c x env')) : exO B σ T F env c x env' :=
  fun G H' d vx l k w i hd r => h G σ H' d vx l (k.s σ) w i hd r

/-! ### blocks -/
theorem sss_cons {s : S} {ss : Ss} (h : tSs B (.cons s ss) D σ H) : tS B s { D with nx := tSs B ss D } σ H := by
  obtain ⟨F, env, T, s0, h⟩ := h
  refine ⟨F, env, T, s0, ?_⟩
  rw [exSs] at h
  cases ho : exS B.P B.cf B.hx s env with
  | next e =>
    rw [ho] at h
    exact fun F' σ' H' l k w i => ⟨F', e, T, s0.next l k w i, poS.from (show poS B D σ T F env (exSs B.P B.cf B.hx ss e) from h) l k⟩
  | _ => rw [ho] at h; exact h
theorem sss_nil (h : tSs B .nil D σ H) : D.nx σ H := by
  obtain ⟨F, env, T, s0, h⟩ := h
  exact h F σ H (.refl F) (.refl _ _) s0.wf s0.inv
theorem sss_one {s : S} (h : tSs B (.cons s .nil) D σ H) : tS B s D σ H := by
  obtain ⟨F, env, T, s0, h⟩ := sss_cons h
  refine ⟨F, env, T, s0, ?_⟩
  cases ho : exS B.P B.cf B.hx s env with
  | next e =>
    rw [ho] at h
    exact fun F' σ' H' l k w i => sss_nil (h F' σ' H' l k w i)
  | _ => rw [ho] at h; exact h

/-- an expression within a statement: what follows -/
theorem then_as {e : E} {Q : VK} {F : Fz} {env : Env} {T : List Root} {f : AV → Env → SO} (s0 : St0 B F env T σ H) (h : poS B D σ T F env ((evA B.P B.cf B.hx false e env).then f))
    (q : ∀ a env' F' H' v, F.le F' → KeepE env env' → WF env' σ → INV B.K F' (er env' σ ++ (avR a v ++ T)) H' → AVok env' σ a v → poS B D σ T F' env' (f a env') → Q v H') : tE B e σ H Q := by
  refine ⟨F, env, T, s0.gd, s0.wf, s0.inv, ?_⟩
  cases ha : evA B.P B.cf B.hx false e env with
  | stuck => rw [ha] at h; exact h
  | exc c x env' => rw [ha] at h; exact poS.exo h
  | ok a env' =>
    rw [ha] at h
    exact fun F' H' v l k w i ok => q a env' F' H' v l k w i ok (poS.from (show poS B D σ T F env (f a env') from h) l (k.s σ))
/-- .. taken as a value -/
theorem settle_as {a : AV} {v : V} {F : Fz} {env : Env} {T : List Root} {f : PV → Env → SO} {A : List Root} {H' : Hp} (w : WF env σ) (i : INV B.K F (er env σ ++ (avR a v ++ A)) H') (ok : AVok env σ a v) (h : poS B D σ T F env ((settle a env).then f)) :
    ∃ x env' F', F.le F' ∧ Rep F' x v ∧ INV B.K F' (er env' σ ++ A) H' ∧ WF env' σ ∧ KeepE env env' ∧ poS B D σ T F' env' (f x env') := by
  cases hs : settle a env with
  | stuck => rw [hs] at h; exact h.elim
  | exc c x e' => cases a <;> simp only [settle] at hs <;> (try (cases hs; done)) ; split at hs <;> cases hs
  | ok x env' =>
    rw [hs] at h
    obtain ⟨F', l, r, i', w', k⟩ := settle_of i w ok hs
    exact ⟨x, env', F', l, r, i', w', k, poS.from (show poS B D σ T F env (f x env') from h) l (k.s σ)⟩

/-! ### assignments -/
theorem asg_hot {t : T} {e : E} (hx : B.hx.isSome = true) (ht : isNm t = false) (h : tS B (.asg t e) D σ H) : False := by
  obtain ⟨F, env, T, s0, h⟩ := h
  rw [exS, if_pos (by rw [hx, ht]; rfl)] at h
  exact h
theorem asg_as {t : T} {e : E} (h : tS B (.asg t e) D σ H) : tAsg (tE B e) (gT B t) D σ H := by
  obtain ⟨F, env, T, s0, h⟩ := h
  rw [exS] at h
  by_cases hn : (B.hx.isSome && !isNm t) = true
  · rw [if_pos hn] at h; exact h.elim
  rw [if_neg hn] at h
  refine then_as s0 h fun a env1 F1 H1 v l1 k1 w1 i1 ok1 h1 => ?_
  cases a with
  | val x d =>
    dsimp only at h1
    cases ht : tgt t x d env1 with
    | none => rw [ht] at h1; exact h1.elim
    | some env2 =>
      rw [ht] at h1
      exact ⟨F1, env1, T, x, d, env2, w1, i1, ht, fun F2 σ2 l2 k2 c2 w2 i2 => h1 F2 σ2 _ l2 k2 w2 i2⟩
  | own j =>
    dsimp only at h1
    obtain ⟨x, env2, F2, l2, r2, i2, w2, k2, h2⟩ := settle_as w1 i1 ok1 h1
    cases ht : tgt t x 0 env2 with
    | none => rw [ht] at h2; exact h2.elim
    | some env3 =>
      rw [ht] at h2
      exact ⟨F2, env2, T, x, 0, env3, w2, (i2.add0 r2).mid, ht, fun F3 σ3 l3 k3 c3 w3 i3 => h2 F3 σ3 _ l3 k3 w3 i3⟩
/-- several names at once -/
def setσ : List Nat → List V → St → St
  | i :: is, v :: vs, σ => (setσ is vs σ).set i (some v)
  | _, _, σ => σ
theorem setAll_as {T : List Root} : ∀ {is : List Nat} {as : List AV} {vs : List V} {env env' : Env} {F : Fz}, WF env σ → INV B.K F (er env σ ++ (avRs as vs ++ T)) H → AVoks env σ as vs → setAll is as env = some env' →
    is.length = vs.length ∧ ∃ F', F.le F' ∧ KeepS env σ env' (setσ is vs σ) ∧ WF env' (setσ is vs σ) ∧ INV B.K F' (er env' (setσ is vs σ) ++ T) H
  | [], [], vs, env, env', F, w, i, ok, h => by
    obtain rfl : vs = [] := ok
    cases h
    exact ⟨rfl, F, .refl F, .refl _ _, w, i⟩
  | [], _ :: _, _, _, _, _, _, _, _, h => by simp [setAll] at h
  | _ :: _, [], _, _, _, _, _, _, _, h => by simp [setAll] at h
  | k :: is, a :: as, vs, env, env', F, w, i, ok, h => by
    obtain ⟨v, r, rfl, h1, h2⟩ := ok
    simp only [setAll] at h
    cases hs : settle a env with
    | stuck => rw [hs] at h; cases h
    | exc c x e => rw [hs] at h; cases h
    | ok x env1 =>
      rw [hs] at h
      dsimp only at h
      have i' : INV B.K F (er env σ ++ (avR a v ++ (avRs as r ++ T))) H := by
        have : avRs (a :: as) (v :: r) ++ T = avR a v ++ (avRs as r ++ T) := by simp [avRs]
        rwa [this] at i
      obtain ⟨F1, l1, r1, i1, w1, k1⟩ := settle_of i' w h1 hs
      cases hA : setAll is as env1 with
      | none => rw [hA] at h; cases h
      | some env2 =>
        rw [hA] at h
        dsimp only at h
        obtain ⟨e1, F2, l2, k2, w2, i2⟩ := setAll_as w1 i1 (h2.keep k1) hA
        have g : gName k v (setσ is r σ) H fun σ' H' => ∃ F3, F2.le F3 ∧ KeepS env2 (setσ is r σ) env' σ' ∧ WF env' σ' ∧ INV B.K F3 (er env' σ' ++ T) H' :=
          gT_nm ⟨F2, env2, T, x, 0, env', w2, (i2.add0 (Rep.mono l2 _ _ r1)).mid, h, fun F3 σ3 l3 k3 c3 w3 i3 => ⟨F3, l3, k3, w3, i3⟩⟩
        obtain ⟨F3, l3, k3, w3, i3⟩ := g
        exact ⟨by simp [e1], F3, (l1.trans l2).trans l3, ((k1.s σ).trans k2).trans k3, w3, i3⟩
theorem par_hot {is : List Nat} {es : Es} (hx : B.hx.isSome = true) (h : tS B (.par is es) D σ H) : False := by
  obtain ⟨F, env, T, s0, h⟩ := h
  rw [exS, if_pos hx] at h
  exact h
theorem par_as {is : List Nat} {es : Es} (h : tS B (.par is es) D σ H) : SAs B es σ H fun vs H1 => is.length = vs.length ∧ D.nx (setσ is vs σ) H1 := by
  obtain ⟨F, env, T, s0, h⟩ := h
  rw [exS] at h
  by_cases hh : B.hx.isSome = true
  · rw [if_pos hh] at h; exact h.elim
  rw [if_neg hh] at h
  refine ⟨F, env, T, [], [], s0.gd, s0.wf, s0.inv, rfl, ?_⟩
  cases ha : evAs B.P B.cf B.hx es [] env with
  | stuck => rw [ha] at h; exact h
  | exc c x env' => rw [ha] at h; exact poS.exo h
  | ok as env1 =>
    rw [ha] at h
    dsimp only [Out.then] at h
    intro F1 H1 vs l1 k1 w1 i1 ok1
    simp only [List.nil_append] at i1 ok1
    cases hA : setAll is as env1 with
    | none => rw [hA] at h; exact h.elim
    | some env2 =>
      rw [hA] at h
      obtain ⟨e1, F2, l2, k2, w2, i2⟩ := setAll_as w1 i1 ok1 hA
      exact ⟨e1, h F2 _ H1 (l1.trans l2) ((k1.s σ).trans k2) w2 i2⟩
/-- a list of one's own at a name -/
theorem own_list {K : PySem.W.Frag} {F : Fz} {R : List Root} {env : Env} {i d : Nat} {l : Bool} {xs : List PV} {v : V} (w : WF env σ) (j : INV K F (er env σ ++ R) H) (he : env[i]? = some (some ⟨.lst xs, d + 1, l⟩)) (hv : σ[i]? = some (some v)) :
    ∃ F' p vs, F.le F' ∧ v = .ref p ∧ H p = some (.lst vs) ∧ RepL F' xs vs ∧ ∀ ys us, RepL F' ys us → INV K F' (er (env.set i (some ⟨.lst ys, 1, l⟩)) σ ++ R) (upd H p (.lst us)) ∧ WF (env.set i (some ⟨.lst ys, 1, l⟩)) σ := by
  obtain ⟨F', le, j1, p, vs, rfl, hp, r⟩ := (INV.pick j he hv).atL
  exact ⟨F', p, vs, le, rfl, hp, r, fun ys us q => ⟨INV.put (s := ⟨.lst ys, 1, l⟩) (j1.setL q) (List.getElem?_eq_some_iff.mp he).1 hv, w.setS _ hv⟩⟩
theorem isLst_at {env : Env} {i : Nat} (h : isLst env i = true) : ∃ s xs, env[i]? = some (some s) ∧ s.v = .lst xs ∧ s.d ≤ 1 := by
  unfold isLst at h
  cases he : env[i]? with
  | none => rw [he] at h; cases h
  | some o =>
    cases o with
    | none => rw [he] at h; cases h
    | some s =>
      rw [he] at h
      simp only [Bool.and_eq_true, decide_eq_true_eq] at h
      obtain ⟨h1, h2⟩ := h
      obtain ⟨v, d, l⟩ := s
      cases v <;> simp at h2
      exact ⟨_, _, rfl, rfl, h1⟩
/-- o[i] = e, o a name that holds its own list -/
theorem setix_as {i : Nat} {ix e : E} (h : tS B (.setix i ix e) D σ H) : tAsg (tE B e) (gSub (tVar i) (tE B ix) rSetL) D σ H := by
  obtain ⟨F, env, T, s0, h⟩ := h
  rw [exS] at h
  refine then_as s0 h fun a env1 F1 H1 v l1 k1 w1 i1 ok1 h1 => ?_
  obtain ⟨x, env2, F2, l2, r2, i2, w2, k2, h2⟩ := settle_as w1 i1 ok1 h1
  have s2 : St0 B F2 env2 T σ H1 := s0.next (l1.trans l2) ((k1.trans k2).s σ) w2 i2
  cases hl : isLst env2 i with
  | false => rw [hl] at h2; exact h2.elim
  | true =>
    rw [hl] at h2
    simp only [Bool.not_true, Bool.false_eq_true, if_false] at h2
    obtain ⟨s, xs, he, _, _⟩ := isLst_at hl
    obtain ⟨p, hp⟩ := w2.val i s he
    refine ⟨p, hp, then_as s2 h2 fun b env3 F3 H3 v3 l3 k3 w3 i3 ok3 h3 => ?_⟩
    cases hr : resolve env3 b with
    | none => rw [hr] at h3; exact h3.elim
    | some z =>
      rw [hr] at h3
      cases z <;> try exact h3.elim
      rename_i k
      obtain ⟨F4, l4, i4, rd⟩ := rdb_of i3 ok3 hr
      obtain rfl := rdb_int rd
      obtain ⟨s3, he3, _⟩ := k3.keep i s he
      rw [he3] at h3
      obtain ⟨v5, d5, lf⟩ := s3
      dsimp only at h3
      cases d5 with
      | zero => exact h3.elim
      | succ d5 =>
        cases v5 <;> try exact h3.elim
        rename_i ys _
        dsimp only at h3
        cases hj : place ys.length k with
        | none => rw [hj] at h3; exact h3.elim
        | some j =>
          rw [hj] at h3
          obtain ⟨F5, q, vs, l5, rfl, hq, r5, hput⟩ := own_list w3 i4 he3 hp
          obtain ⟨i6, w6⟩ := hput (ys.set j x) (vs.set j v) (r5.set j (Rep.mono ((l3.trans l4).trans l5) _ _ r2))
          refine ⟨q, vs, k, j, rfl, rfl, hq, by rw [r5.length]; exact hj, ?_⟩
          exact h3 F5 σ _ (l4.trans l5) ((KeepE.set (t := ⟨.lst (ys.set j x), 1, lf⟩) he3 rfl).s σ) w6 i6
/-- o.append(e) -/
theorem app_as {i : Nat} {e : E} (h : tS B (.app i e) D σ H) : tDrop (tBM B.K "list" rAppend (tVar i) (tCons (tE B e) tNil)) D σ H := by
  obtain ⟨F, env, T, s0, h⟩ := h
  rw [exS] at h
  cases hl : isLst env i with
  | false => rw [hl] at h; exact h.elim
  | true =>
    rw [hl] at h
    simp only [Bool.not_true, Bool.false_eq_true, if_false] at h
    obtain ⟨s, xs, he, hx, hd⟩ := isLst_at hl
    obtain ⟨p, hp⟩ := s0.wf.val i s he
    obtain ⟨cs, f, rd⟩ := (INV.pick s0.inv he hp).rdb hd
    rw [hx] at rd
    obtain ⟨a, vs, rfl, ha, _⟩ := rd
    refine ⟨.ref a, hp, .inl ⟨rfl, vs, .of ha⟩, then_as s0 h fun b env1 F1 H1 v l1 k1 w1 i1 ok1 h1 => ?_⟩
    obtain ⟨x, env2, F2, l2, r2, i2, w2, k2, h2⟩ := settle_as w1 i1 ok1 h1
    obtain ⟨s3, he3, _⟩ := (k1.trans k2).keep i s he
    rw [he3] at h2
    obtain ⟨v5, d5, lf⟩ := s3
    dsimp only at h2
    cases d5 with
    | zero => exact h2.elim
    | succ d5 =>
      cases v5 <;> try exact h2.elim
      rename_i ys _
      dsimp only at h2
      by_cases hz : ys.length < sizeMax
      · rw [if_pos hz] at h2
        obtain ⟨F5, q, us, l5, e, hq, r5, hput⟩ := own_list w2 i2 he3 hp
        cases e
        obtain ⟨i6, w6⟩ := hput (ys ++ [x]) (us ++ [v]) (r5.append (RepL.one (Rep.mono l5 _ _ r2)))
        exact ⟨a, us, v, rfl, rfl, hq, by rw [r5.length]; exact Nat.lt_of_lt_of_le hz (by decide), h2 F5 σ _ l5 ((KeepE.set (t := ⟨.lst (ys ++ [x]), 1, lf⟩) he3 rfl).s σ) w6 i6⟩
      · rw [if_neg hz] at h2; exact h2.elim
theorem exp_as {e : E} (h : tS B (.exp e) D σ H) : tDrop (tE B e) D σ H := by
  obtain ⟨F, env, T, s0, h⟩ := h
  rw [exS] at h
  exact then_as s0 h fun a env1 F1 H1 v l1 k1 w1 i1 ok1 h1 => h1 F1 σ H1 (.refl _) (.refl _ _) w1 (inv_dropR i1)

/-! ### branches, loops -/
theorem test_as {c : E} {Q : Bool → Hp → Prop} {F : Fz} {env : Env} {T : List Root} {f : Bool → Env → SO} (s0 : St0 B F env T σ H) (h : poS B D σ T F env ((tst B.P B.cf B.hx c env).then f))
    (q : ∀ b env' F' H', F.le F' → KeepE env env' → WF env' σ → INV B.K F' (er env' σ ++ T) H' → poS B D σ T F' env' (f b env') → Q b H') : tT B c σ H Q := by
  refine ⟨F, env, T, s0.gd, s0.wf, s0.inv, ?_⟩
  cases ha : tst B.P B.cf B.hx c env with
  | stuck => rw [ha] at h; exact h
  | exc c x env' => rw [ha] at h; exact poS.exo h
  | ok b env' =>
    rw [ha] at h
    exact fun F' H' l k w i => q b env' F' H' l k w i (poS.from (show poS B D σ T F env (f b env') from h) l (k.s σ))
theorem ifs_as {c : E} {t f : Ss} (h : tS B (.ifs c t f) D σ H) : tIfS (tT B c) (tSs B t) (tSs B f) D σ H := by
  obtain ⟨F, env, T, s0, h⟩ := h
  rw [exS] at h
  refine test_as s0 h fun b env1 F1 H1 l1 k1 w1 i1 h1 => ?_
  have s1 : St0 B F1 env1 T σ H1 := s0.next l1 (k1.s σ) w1 i1
  cases b with
  | true => exact (if_pos rfl).mpr ⟨F1, env1, T, s1, by simpa using h1⟩
  | false => exact (if_neg (by decide)).mpr ⟨F1, env1, T, s1, by simpa using h1⟩
theorem whl_as {c : E} {b : Ss} (hx : B.hx = none) (h : tS B (.whl c b) D σ H) : tWhile (tT B c) (tSs B b) D σ H := by
  obtain ⟨F, env, T, s0, h⟩ := h
  rw [exS, hx] at h
  simp only [Option.isSome_none, Bool.false_eq_true, if_false] at h
  rw [← hx] at h
  refine ⟨fun m σ H => ∃ F env, St0 B F env T σ H ∧ poS B D σ T F env (whileLoop (fun e => tst B.P B.cf B.hx c e) (fun e => exSs B.P B.cf B.hx b e) m env), ⟨bigN, F, env, s0, h⟩, ?_⟩
  rintro m σ H ⟨F, env, s0, h⟩
  cases m with
  | zero => exact h.elim
  | succ m =>
    have h : poS B D σ T F env ((tst B.P B.cf B.hx c env).then fun b' env => if b' = true then (match exSs B.P B.cf B.hx b env with
        | .next env => whileLoop (fun e => tst B.P B.cf B.hx c e) (fun e => exSs B.P B.cf B.hx b e) m env
        | .cnt env => whileLoop (fun e => tst B.P B.cf B.hx c e) (fun e => exSs B.P B.cf B.hx b e) m env
        | .brk env => .next env
        | o => o) else .next env) := by
      rw [whileLoop] at h
      cases ha : tst B.P B.cf B.hx c env with
      | ok b' e => rw [ha] at h; cases b' <;> exact h
      | _ => rw [ha] at h; exact h
    refine test_as s0 h fun b' env1 F1 H1 l1 k1 w1 i1 h1 => ?_
    have s1 : St0 B F1 env1 T σ H1 := s0.next l1 (k1.s σ) w1 i1
    cases b' with
    | false =>
      rw [if_neg (by decide)] at h1 ⊢
      exact h1 F1 σ H1 (.refl _) (.refl _ _) w1 i1
    | true =>
      rw [if_pos rfl] at h1 ⊢
      refine ⟨fun σ' H' => ∃ F2 env2, St0 B F2 env2 T σ' H' ∧ poS B D σ' T F2 env2 (whileLoop (fun e => tst B.P B.cf B.hx c e) (fun e => exSs B.P B.cf B.hx b e) m env2), fun σ' H' z => ⟨m, Nat.lt_succ_self m, z⟩, F1, env1, T, s1, ?_⟩
      cases ho : exSs B.P B.cf B.hx b env1 with
      | next e => rw [ho] at h1; exact fun F' σ' H' l k w i => ⟨F', e, s1.next l k w i, poS.from h1 l k⟩
      | cnt e => rw [ho] at h1; exact fun F' σ' H' l k w i => ⟨F', e, s1.next l k w i, poS.from h1 l k⟩
      | brk e => rw [ho] at h1; exact fun F' σ' H' l k w i => h1 F' σ' H' l k w i
      | ret v d e => rw [ho] at h1; exact h1
      | exc c x e => rw [ho] at h1; exact h1
      | stuck => rw [ho] at h1; exact h1
theorem for_as {t : T} {it : MP.I} {b : Ss} (hx : B.hx = none) (h : tS B (.for_ t it b) D σ H) : tFor (tI B it) (gT B t) (tSs B b) D σ H := by
  obtain ⟨F, env, T, s0, h⟩ := h
  rw [exS, hx] at h
  simp only [Option.isSome_none, Bool.false_eq_true, if_false] at h
  rw [← hx] at h
  refine ⟨F, env, T, s0.gd, s0.wf, s0.inv, ?_⟩
  cases hI : evI B.P B.cf B.hx it env with
  | stuck => rw [hI] at h; exact h
  | exc c x env' => rw [hI] at h; exact poS.exo h
  | ok xs env1 =>
    rw [hI] at h
    intro F1 H1 J l1 k1 w1 i1 wk
    dsimp only [Out.then] at h
    obtain ⟨G, Y, walk, hG, hY⟩ := wk
    let stp : PV → Env → SO := fun x e => match tgt t x 0 e with
      | some e => exSs B.P B.cf B.hx b e
      | none => .stuck
    let Pv : Nat → St → Hp → Prop := fun n σ H => ∃ F2 e2, F1.le F2 ∧ St0 B F2 e2 T σ H ∧ poS B D σ T F2 e2 (forLoop stp (xs.drop n) e2)
    refine for_it walk Pv ?_ (fun n σ H _ ⟨F2, e2, a1, a2, a3⟩ => hG F2 _ H a1 a2.inv) ?_ ?_
    · exact ⟨F1, env1, .refl _, s0.next l1 (k1.s σ) w1 i1, by rw [List.drop_zero]; exact poS.from h l1 (k1.s σ)⟩
    · rintro n x σ H H' hlt ⟨F2, e2, a1, a2, a3⟩ y
      obtain ⟨F3, pv, hpv, l3, i3⟩ := hY n F2 _ H x H' hlt a1 a2.inv y
      have hdr : xs.drop n = pv :: xs.drop (n + 1) := by
        have hl : n < xs.length := (List.getElem?_eq_some_iff.mp hpv).1
        rw [List.drop_eq_getElem_cons hl]
        have : xs[n] = pv := by have := hpv; rw [List.getElem?_eq_getElem hl] at this; exact Option.some.inj this
        rw [this]
      rw [hdr] at a3
      have a3 : poS B D σ T F2 e2 (match stp pv e2 with
        | .next env => forLoop stp (xs.drop (n + 1)) env
        | .cnt env => forLoop stp (xs.drop (n + 1)) env
        | .brk env => .next env
        | o => o) := a3
      cases ht : tgt t pv 0 e2 with
      | none => simp only [stp, ht] at a3; exact a3.elim
      | some e3 =>
        have es : stp pv e2 = exSs B.P B.cf B.hx b e3 := by simp only [stp, ht]
        rw [es] at a3
        refine ⟨F3, e2, T, pv, 0, e3, a2.wf, i3.mid, ht, fun F4 σ4 l4 k4 c4 w4 i4 => ?_⟩
        have s4 : St0 B F4 e3 T σ4 H' := a2.next (l3.trans l4) k4 w4 i4
        have a4 := poS.from a3 (l3.trans l4) k4
        refine ⟨F4, e3, T, s4, ?_⟩
        cases ho : exSs B.P B.cf B.hx b e3 with
        | next e => rw [ho] at a4; exact fun F' σ' H' l k w i => ⟨F', e, (a1.trans (l3.trans l4)).trans l, s4.next l k w i, poS.from a4 l k⟩
        | cnt e => rw [ho] at a4; exact fun F' σ' H' l k w i => ⟨F', e, (a1.trans (l3.trans l4)).trans l, s4.next l k w i, poS.from a4 l k⟩
        | brk e => rw [ho] at a4; exact fun F' σ' H' l k w i => a4 F' σ' H' l k w i
        | ret v d e => rw [ho] at a4; exact a4
        | exc c x e => rw [ho] at a4; exact a4
        | stuck => rw [ho] at a4; exact a4
    · rintro σ H ⟨F2, e2, a1, a2, a3⟩
      rw [List.drop_length] at a3
      exact a3 F2 σ H (.refl _) (.refl _ _) a2.wf a2.inv

/-! ### ways out -/
theorem ret_as {e : E} (hv : ∀ i, e ≠ .var i) (h : tS B (.ret e) D σ H) : tE B e σ H D.rt := by
  obtain ⟨F, env, T, s0, h⟩ := h
  have h : poS B D σ T F env ((evA B.P B.cf B.hx false e env).then fun a env => match a with
      | .val v d => .ret v d env
      | .own _ => (settle a env).then fun v env => .ret v 0 env) := by
    cases e <;> first
      | exact absurd rfl (hv _)
      | (rw [exS] at h
         · exact h
         · exact fun i z => hv i z)
  refine then_as s0 h fun a env1 F1 H1 v l1 k1 w1 i1 ok1 h1 => ?_
  cases a with
  | val x d => exact h1 F1 σ H1 v (.refl _) (.refl _ _) w1 i1
  | own j =>
    dsimp only at h1
    obtain ⟨x, env2, F2, l2, r2, i2, w2, k2, h2⟩ := settle_as w1 i1 ok1 h1
    exact h2 F2 σ H1 v (.refl _) (.refl _ _) w2 (i2.add0 r2).mid
theorem ret_var {i : Nat} (h : tS B (.ret (.var i)) D σ H) : tVar i σ H D.rt := by
  obtain ⟨F, env, T, s0, h⟩ := h
  rw [exS] at h
  cases he : env[i]? with
  | none => rw [he] at h; exact h.elim
  | some o =>
    cases o with
    | none => rw [he] at h; exact h.elim
    | some s =>
      rw [he] at h
      dsimp only at h
      obtain ⟨v, hv⟩ := s0.wf.val i s he
      refine ⟨v, hv, ?_⟩
      by_cases hl : s.l = true
      · rw [if_pos hl] at h
        obtain ⟨F1, l1, r1, i1⟩ := INV.frz (R := T) s0.inv he hv
        exact h F1 σ H v l1 (frz_keep.s σ) (frz_wf s0.wf) (i1.add0 r1).mid
      · rw [if_neg hl] at h
        refine h F σ H v (.refl _) ⟨List.length_set, fun j t e l => ?_⟩ (s0.wf.setN i) (INV.pick s0.inv he hv).mid
        have z : i ≠ j := fun z => by subst z; rw [he] at e; cases e; exact hl l
        exact ⟨⟨t, by rw [List.getElem?_set_ne z]; exact e, l⟩, rfl⟩
theorem ret0_as (h : tS B .ret0 D σ H) : tRetN D σ H := by
  obtain ⟨F, env, T, s0, h⟩ := h
  rw [exS] at h
  exact h F σ H .non (.refl _) (.refl _ _) s0.wf (s0.inv.add0 (rep_non.mpr rfl)).mid
theorem brk_as (h : tS B .brk D σ H) : tBreak D σ H := by
  obtain ⟨F, env, T, s0, h⟩ := h
  rw [exS] at h
  exact h F σ H (.refl _) (.refl _ _) s0.wf s0.inv
theorem cnt_as (h : tS B .cnt D σ H) : tCont D σ H := by
  obtain ⟨F, env, T, s0, h⟩ := h
  rw [exS] at h
  exact h F σ H (.refl _) (.refl _ _) s0.wf s0.inv
/-- an error's dict -/
theorem INV.newX {K : PySem.W.Frag} {F : Fz} {R : List Root} {p : Addr} {fs : List (Str × V)} (i : INV K F R H) (hp : H p = none) : ∃ F', F.le F' ∧ F' p (.xd fs) ∧ INV K F' R (upd H p (.xd fs)) := by
  obtain ⟨cs, a, f⟩ := i
  refine ⟨F.add [(p, .xd fs)], .add, .inr List.mem_cons_self, cs, a.mono .add, fun b o h => ?_, fun q hq => ?_, f.nd⟩
  · rcases h with h | h
    · rcases f.has b o h with ⟨x, y⟩ | h
      · obtain ⟨u, hu⟩ := x.there
        exact .inl ⟨x.upd (ne_of_none hu hp), y⟩
      · exact .inr h
    · have e : (b, o) = (p, .xd fs) := by simpa using h
      cases e
      refine .inl ⟨upd_same, fun z => ?_⟩
      obtain ⟨q, hq, e⟩ := List.mem_map.mp z
      have := f.own q hq
      rw [e, hp] at this; cases this
  · have := f.own q hq
    exact (upd_ne (ne_of_none this hp)).trans this
def tMk (B : Bd) (c : Nat) (te : TE) : St → Hp → XK → Prop := fun σ H Q => te σ H fun v H1 => ∀ d, H1 d = none → Q (.ref (B.ca c)) (some d) (upd H1 d (.xd [(fldOf B.P c, v)]))
theorem raise_as {c : Nat} {e : E} (hx : B.hx = none) (h : tS B (.raise c e) D σ H) : tMk B c (tE B e) σ H fun cls d H' => B.W cls d σ H' := by
  obtain ⟨F, env, T, s0, h⟩ := h
  rw [exS, hx] at h
  simp only [Option.isSome_none, Bool.false_eq_true, if_false] at h
  rw [← hx] at h
  refine then_as s0 h fun a env1 F1 H1 v l1 k1 w1 i1 ok1 h1 d hd => ?_
  obtain ⟨x, env2, F2, l2, r2, i2, w2, k2, h2⟩ := settle_as w1 i1 ok1 h1
  obtain ⟨F3, l3, h3, i3⟩ := i2.newX hd (fs := [(fldOf B.P c, v)])
  exact h2 F3 σ _ (some d) v l3 (.refl _ _) w2 i3 h3 (Rep.mono l3 _ _ r2)
/-- an error without a field -/
theorem raise0_as {c : Nat} (hx : B.hx = none) (hf : fldOf B.P c = noF) (h : tS B (.raise0 c) D σ H) : B.W (.ref (B.ca c)) none σ H := by
  obtain ⟨F, env, T, s0, h⟩ := h
  rw [exS, hx] at h
  simp only [Option.isSome_none, Bool.false_eq_true, if_false] at h
  exact h F σ H none .non (.refl F) (.refl _ _) s0.wf s0.inv hf (rep_non.mpr rfl)
end
end MP
set_option Elab.async false
set_option linter.all false
set_option maxRecDepth 100000
set_option maxHeartbeats 1000000
/-! M9: the row's own text: is it the small text? Expressions. -/
namespace MP
open PySem L2 PySem.Spec PyProof.Rows

/-! ### the check -/
def visB (sc : Scope) (x : Str) : Bool := match sc.names.lookup x with
  | some .local => true | some .cell => true | some .free => true | _ => false
def locB (sc : Scope) (x : Str) : Bool := match sc.names.lookup x with
  | some .local => true | some .cell => true | _ => false
def glB (sc : Scope) (x : Str) : Bool := decide (sc.names.lookup x = some .globalImplicit)
def dbg (x : Str) : Bool := !(x == ("__debug__" : Str)) && !(x == ("__classdict__" : Str))
def notStar : Expr → Bool
  | .Starred .. => false
  | _ => true
def notSet : Expr → Bool
  | .Set .. => false
  | _ => true
def plainIx : Expr → Bool
  | .Slice .. => false
  | _ => true
def gen : Expr → Bool
  | .UnaryOp .Not _ _ => false
  | .BoolOp .. => false
  | .IfExp .. => false
  | .Compare .. => false
  | _ => true
def cstB : PV → Const → Bool
  | .non, .none => true
  | .bl a, .bool b => a == b
  | .int i, .int j => i == j
  | .str s, .str t => decide (s = t)
  | _, _ => false
def bval : Prim → Option (Str × Value)
  | .len => some ("len", .builtin "len")
  | .toInt => some ("int", .type "int")
  | .abs => some ("abs", .builtin "abs")
  | .toLst => some ("list", .type "list")
  | .toTup => some ("tuple", .type "tuple")
  | .sorted => some ("sorted", .builtin "sorted")
  | .min2 => some ("min", .builtin "min")
  | .max2 => some ("max", .builtin "max")
  | _ => none
def bnames : List Str := ["len", "int", "abs", "list", "tuple", "min", "max", "isinstance", "bool", "str", "range", "sorted", "ValueError", "set", "enumerate"]
def tyStr : Ty → Str
  | .int => "int" | .bool => "bool" | .str => "str" | .tup => "tuple" | .lst => "list"
def isiArgs (sc : Scope) (t : Ty) : Expr → List Expr → List Keyword → Option (List Expr)
  | .Name f _, [x, .Name ty _], [] => if f = "isinstance" ∧ ty = tyStr t ∧ glB sc f = true ∧ glB sc ty = true then some [x] else none
  | _, _, _ => none
def bltArgs (sc : Scope) (p : Prim) : Expr → List Expr → List Keyword → Option (List Expr)
  | .Name f _, x :: xs, [] => match bval p with
    | some (g, _) => if f = g ∧ glB sc f = true then some (x :: xs) else none
    | none => none
  | _, _, _ => none
/-- the operands of an operation, where the text is one -/
def primArgs (sc : Scope) : Prim → Expr → Option (List Expr)
  | .op o, .BinOp l op r _ => if op = opOf o then some [l, r] else none
  | .neg, .UnaryOp .USub l _ => some [l]
  | .cmp c, .Compare l [op] [r] _ => if op = cmpOf c ∧ behindInMarks op r = false then some [l, r] else none
  | .ix, .Subscript l r _ => if plainIx r = true then some [l, r] else none
  | .tup, .Tuple xs _ _ => some xs
  | .lst, .List xs _ => some xs
  | .isi t, .Call f args kws _ => isiArgs sc t f args kws
  | p, .Call f args kws _ => bltArgs sc p f args kws
  | _, _ => none
def plainB : Expr → Bool
  | .Name .. => true
  | .BinOp .. => true
  | _ => false
/-- .. methods, texts of ints, sets, lists of ranges -/
def primArgs2 (sc : Scope) : Prim → Expr → Option (List Expr)
  | .bits, .Call (.Attribute o m ap) [] [] pos => if m = "bit_length" ∧ (ap.endLine == pos.line) = true ∧ plainB o = true then some [o] else none
  | .cnt z, .Call (.Attribute o m ap) [.Constant (.str y) _ _] [] pos => if m = "count" ∧ y = z ∧ (ap.endLine == pos.line) = true ∧ plainB o = true then some [o] else none
  | .fmtB, .JoinedStr [.FormattedValue o c (some (.JoinedStr [.Constant (.str y) _ _] _)) _] _ => if c = -1 ∧ y = "b" then some [o] else none
  | .rev, .Subscript o (.Slice none none (some (.UnaryOp .USub (.Constant (.int i) _ _) _)) _) _ => if i = 1 then some [o] else none
  | .sset, .Call (.Name f _) [.Call (.Name g _) [x] [] _] [] _ => if f = "sorted" ∧ g = "set" ∧ glB sc f = true ∧ glB sc g = true then some [x] else none
  | .lrng, .Call (.Name f _) [.Call (.Name g _) [x, y] [] _] [] _ => if f = "list" ∧ g = "range" ∧ glB sc f = true ∧ glB sc g = true then some [x, y] else none
  | _, _ => none
def enuArgs (sc : Scope) : Expr → Option Expr
  | .Call (.Name f _) [x] [] _ => if f = "enumerate" ∧ glB sc f = true then some x else none
  | _ => none
/-- what enumerate gives is taken apart -/
def enuT : I → T → Bool
  | .enu _, .tup _ => true
  | .enu _, _ => false
  | _, _ => true
def rngArgs (sc : Scope) : Expr → Option (List Expr)
  | .Call (.Name f _) xs [] _ => if f = "range" ∧ glB sc f = true then some xs else none
  | _ => none
def len12 : Es → Bool
  | .cons _ .nil => true
  | .cons _ (.cons _ .nil) => true
  | .cons _ (.cons _ (.cons _ .nil)) => true
  | _ => false
/-- isinstance(x, y), two names -/
def exiArgs : Expr → Option (Str × Str × Str)
  | .Call (.Name f _) [.Name x _, .Name y _] [] _ => some (f, x, y)
  | _ => none
theorem exiArgs_eq {e : Expr} {f x y : Str} (h : exiArgs e = some (f, x, y)) : ∃ p1 p2 p3 pos, e = .Call (.Name f p1) [.Name x p2, .Name y p3] [] pos := by
  unfold exiArgs at h
  split at h
  · cases h; exact ⟨_, _, _, _, rfl⟩
  · cases h
def slcArgs : Expr → Option (Expr × Option Expr × Option Expr)
  | .Subscript e (.Slice l h none _) _ => some (e, l, h)
  | _ => none
theorem slcArgs_eq {e x : Expr} {l h : Option Expr} (q : slcArgs e = some (x, l, h)) : ∃ p2 pos, e = .Subscript x (.Slice l h none p2) pos := by
  unfold slcArgs at q
  split at q
  · cases q; exact ⟨_, _, rfl⟩
  · cases q
def opB (b : Bool) : BoolOp := if b then .And else .Or
def esNil : Es → Bool
  | .nil => true
  | _ => false
def atMost1 : Es → Bool
  | .cons _ (.cons _ _) => false
  | _ => true
mutual
def okT (N : List Str) (sc : Scope) : T → Expr → Bool
  | .nm i, .Name x _ => decide (N[i]? = some x) && locB sc x
  | .tup ts, .Tuple xs _ _ => okTs N sc ts xs
  | _, _ => false
def okTs (N : List Str) (sc : Scope) : Ts → List Expr → Bool
  | .nil, [] => true
  | .cons t ts, x :: xs => notStar x && okT N sc t x && okTs N sc ts xs
  | _, _ => false
end
/-- a comprehension's scope within another -/
def relB (sc sc' : Scope) : Scope := { sc' with names := sc'.names.map fun (n, k) => if (k == .free && sc.kind == .function && sc.names.lookup n == some .cell) then (n, .cell) else (n, k) }
section
variable (P : Prog) (N : List Str)
mutual
def okE : Scope → E → Expr → Bool
  | sc, .var i, .Name x _ => decide (N[i]? = some x) && visB sc x && dbg x
  | sc, .glb g, .Name x _ => (match P.glbs[g]? with | some (y, _) => decide (y = x) | none => false) && glB sc x && dbg x
  | _, .cst c, .Constant k _ _ => cstB c k
  | sc, .prim p es, e => match primArgs sc p e with
    | some xs => okEs sc es xs
    | none => match primArgs2 sc p e with
      | some xs => okEs sc es xs
      | none => false
  | sc, .not_ a, .UnaryOp .Not x _ => okE sc a x
  | sc, .bop c es, .BoolOp op xs _ => decide (op = opB c) && !esNil es && okEs sc es xs
  | sc, .chn c c' x y z, .Compare l [op, op'] [m, r] _ => decide (op = cmpOf c) && decide (op' = cmpOf c') && !behindInMarks op' r && okE sc x l && okE sc y m && okE sc z r
  | sc, .call f es, .Call (.Name x _) (a :: as) [] _ => (match P.fns[f]? with | some fn => decide (fn.name = x) | none => false) && glB sc x && dbg x && okEs sc es (a :: as)
  | sc, .call f es, .Call (.Name x _) [] [] _ => (match P.fns[f]? with | some fn => decide (fn.name = x) | none => false) && glB sc x && dbg x && esNil es
  | sc, .lc elt tg it ifs own, .ListComp e gens sc' _ => match gens with
    | [⟨t, i, fs, 0⟩] => blkC N sc sc' (own.map fun k => (N[k]?.getD (Str.ofString ""), k)) && (tn tg).all (fun j => own.contains j) && okT N sc' tg t && enuT it tg && okI sc it i && atMost1 ifs && okEs (relB sc sc') ifs fs && okE (relB sc sc') elt e
    | _ => false
  | sc, .exf i f, .Attribute (.Name x _) g _ => decide (N[i]? = some x) && visB sc x && dbg x && decide (f = g) && !decide (f = noF)
  | sc, .exi i k, e => (match exiArgs e with
    | some (f, x, y) => decide (f = "isinstance") && glB sc f && decide (N[i]? = some x) && visB sc x && dbg x && (match P.cls[k]? with | some cl => decide (cl.name = y) | none => false) && glB sc y && dbg y
    | none => false)
  | sc, .exv i, e => (match exiArgs e with
    | some (f, x, y) => decide (f = "isinstance") && glB sc f && decide (N[i]? = some x) && visB sc x && dbg x && decide (y = "ValueError") && glB sc y
    | none => false)
  | sc, .chn3 c c' c'' x y z t, .Compare l [op, op', op''] [m, r, q] _ => decide (op = cmpOf c) && decide (op' = cmpOf c') && decide (op'' = cmpOf c'') && !behindInMarks op'' q && okE sc x l && okE sc y m && okE sc z r && okE sc t q
  | sc, .slc x lo hi, e => (match slcArgs e with
    | some (y, l, h) => okE sc x y && okP sc lo l && okP sc hi h
    | none => false)
  | _, _, _ => false
def okP : Scope → Es → Option Expr → Bool
  | _, .nil, none => true
  | sc, .cons a .nil, some e => okE sc a e
  | _, _, _ => false
def okEs : Scope → Es → List Expr → Bool
  | _, .nil, [] => true
  | sc, .cons e es, x :: xs => notStar x && okE sc e x && okEs sc es xs
  | _, _, _ => false
def okI : Scope → I → Expr → Bool
  | sc, .ex e, x => notSet x && okE sc e x
  | sc, .rng es, e => match rngArgs sc e with
    | some xs => len12 es && okEs sc es xs
    | none => false
  | sc, .enu e, x => match enuArgs sc x with
    | some y => notStar y && okE sc e y
    | none => false
end
end

/-! ### isinstance of a caught error -/
structure XcC (K : PySem.W.Frag) (D : Addr) : Prop where
  hc : (PySem.W.clsIn K D).isSome = true
  hg : PySem.W.findIn K (.ref D) "__getattribute__" = some (some (.builtin "BaseException.__getattribute__"))
  hk : PySem.W.findIn K (.ref D) "__getattr__" = some none
  hs : PySem.W.subIn K (.ref D) (.type "BaseException") = some true
  ha : PySem.W.findIn K (.ref D) "__class__" = some (some (.builtin "object.__class__"))
  hn : PySem.W.specialIn K (.builtin "object.__class__") "__get__" = some (some (.builtin "getset_descriptor.__get__"))
  ht : PySem.W.takesIn K (.builtin "object.__class__") = some true
  hm : PySem.W.mroIn K D (.type "object") = some true
def rIsX (K : PySem.W.Frag) (D a dd : Addr) : List V → Hp → VK → Prop := fun xs H Q =>
  ∃ c cv b kvs, xs = [V.ref a, c] ∧ (∀ u, RelV c u → u = cv) ∧ PySem.W.kitOne K (.ref D) cv = some b ∧ H dd = some (.xd kvs) ∧ Q (.bl b) H
theorem call_isX {X : Cx} {a D dd : Addr} {oe : Obj} {pn : List (Addr × Obj)} (C : XcC X.K D) (hz : Zc (.ref D) (some dd) oe) (hf : ∃ vs, oe.data = .fields vs) :
    CallR (X.suite a ((a, oe) :: pn)) (.builtin "isinstance") (rIsX X.K D a dd) := by
  intro pins s σ H xs us Q I r h
  obtain ⟨c, cv, b, kvs, rfl, hcv, e, hd, q⟩ := h
  cases r with
  | cons rx rr =>
    cases rr with
    | cons rt rn =>
      cases rn
      cases rx
      obtain rfl := hcv _ rt
      obtain ⟨hget, _⟩ := I.pin (a, oe) (List.mem_append.mpr (.inl List.mem_cons_self))
      obtain ⟨vs, hv⟩ := hf
      have hk := I.hok dd _ hd
      obtain ⟨oc, od, oda, osl⟩ := oe
      obtain ⟨h1, h2⟩ := hz
      dsimp only at h1 h2 hv
      subst h1 h2 hv
      simp only [ObjOk] at hk
      obtain ⟨mA, ⟨o, _, _, ho, _⟩, _⟩ := hk
      have J : PySem.W.InstAt s.heap a { cls := .ref D, dict := some dd, data := .fields vs, slots := osl } D (some o) := ⟨hget, rfl, rfl, ho⟩
      refine PySem.W.kia_one (PySem.W.kitx_exc C.hc C.hg C.hk C.hs C.ha C.hn C.ht C.hm) (Inv.kIn (X := X.suite _ _) I) J e (fun z => nomatch z) fun tk => ?_
      exact ⟨V.bl b, H, Inv.kept I fun x x_1 z => z, rfl, q⟩

def rIsX0 (K : PySem.W.Frag) (D a : Addr) : List V → Hp → VK → Prop := fun xs H Q =>
  ∃ c cv b, xs = [V.ref a, c] ∧ (∀ u, RelV c u → u = cv) ∧ PySem.W.kitOne K (.ref D) cv = some b ∧ Q (.bl b) H
/-- .. which has no dict -/
theorem call_isX0 {X : Cx} {a D : Addr} {oe : Obj} {pn : List (Addr × Obj)} (C : XcC X.K D) (hz : Zc (.ref D) none oe) (hf : ∃ vs, oe.data = .fields vs) :
    CallR (X.suite a ((a, oe) :: pn)) (.builtin "isinstance") (rIsX0 X.K D a) := by
  intro pins s σ H xs us Q I r h
  obtain ⟨c, cv, b, rfl, hcv, e, q⟩ := h
  cases r with
  | cons rx rr =>
    cases rr with
    | cons rt rn =>
      cases rn
      cases rx
      obtain rfl := hcv _ rt
      obtain ⟨hget, _⟩ := I.pin (a, oe) (List.mem_append.mpr (.inl List.mem_cons_self))
      obtain ⟨vs, hv⟩ := hf
      obtain ⟨oc, od, oda, osl⟩ := oe
      obtain ⟨h1, h2⟩ := hz
      dsimp only at h1 h2 hv
      subst h1 h2 hv
      have J : PySem.W.InstAt s.heap a { cls := .ref D, dict := none, data := .fields vs, slots := osl } D none := ⟨hget, rfl, rfl, trivial⟩
      refine PySem.W.kia_one (PySem.W.kitx_exc C.hc C.hg C.hk C.hs C.ha C.hn C.ht C.hm) (Inv.kIn (X := X.suite _ _) I) J e (fun z => nomatch z) fun tk => ?_
      exact ⟨V.bl b, H, Inv.kept I fun x x_1 z => z, rfl, q⟩
/-- with or without -/
def rIsXo (K : PySem.W.Frag) (D a : Addr) (dd : Option Addr) : List V → Hp → VK → Prop := match dd with
  | some d => rIsX K D a d
  | none => rIsX0 K D a
theorem call_isXo {X : Cx} {a D : Addr} {dd : Option Addr} {oe : Obj} {pn : List (Addr × Obj)} (C : XcC X.K D) (hz : Zc (.ref D) dd oe) (hf : ∃ vs, oe.data = .fields vs) :
    CallR (X.suite a ((a, oe) :: pn)) (.builtin "isinstance") (rIsXo X.K D a dd) := by
  cases dd with
  | none => exact call_isX0 C hz hf
  | some d => exact call_isX C hz hf
theorem rIsXo_of {K K' : PySem.W.Frag} {F : Fz} {P : Prog} {D a : Addr} {cc : Nat} {dd : Option Addr} {vx c : V} {cv : Value} {b : Bool} {cs : Cells} {H : Hp} {Q : VK} (f : Fr K' F H cs) (hx : ExH P F cc dd vx) (h1 : ∀ u, RelV c u → u = cv) (h2 : PySem.W.kitOne K (.ref D) cv = some b) (q : Q (.bl b) H) : rIsXo K D a dd [V.ref a, c] H Q := by
  cases dd with
  | none => exact ⟨c, cv, b, rfl, h1, h2, q⟩
  | some d =>
    refine ⟨c, cv, b, [(fldOf P cc, vx)], rfl, h1, h2, ?_, q⟩
    rcases f.has _ _ hx with ⟨h, _⟩ | h
    · exact h
    · exact h.elim

/-! ### the frame's side -/
/-- a class of errors without a field -/
structure OwnC (K : PySem.W.Frag) (C : Addr) : Prop where
  ex : PySem.W.excIn K C [.type "ValueError", .type "Exception", .type "BaseException", .type "object"] "ValueError.__new__" = true
  kp : PySem.W.keepIn K (.ref C) = true
  sb : PySem.W.subIn K (.ref C) (.type "BaseException") = some true
  ty : PySem.W.typeIn K (.ref C) = some (.type "type")
theorem pmk_own0 {X : Cx} {pos : Pos} {C : Addr} {bmB : List Value} {B newId initId : String} {x : Str} {p : Pos} (F : ExcBaseFacts B newId initId bmB) (q : PySem.W.excIn X.K C bmB newId = true) (gC : X.mg x = some (.ref C)) (kC : PySem.W.keepIn X.K (.ref C) = true)
    (r : Raises X (.ref C)) (hg : Gl X x) (hdb : (x == ("__debug__" : Str)) = false) : L2N.PMk X (.Call (.Name x p) [] [] pos) fun _ H Q => Q (.ref C) none H := by
  intro pins s σ H Q I h
  refine wpAny_Call_Name_kw (ld_glob I hg gC (PySem.W.callWith_K0 (Inv.kIn I) kC ?_) hdb)
  obtain ⟨bm, N, nm, qn, bs, hdct, sn, sub, ab, col, dd, k0, k1, k2, k3, k5, mN, hC, hN, hni, T⟩ := exc_obj (Inv.kIn I) q
  exact wpAny_call_exc_subT F T hC hN hni (fun h' e hm => L2N.mk_of I hm r h (HOk.gone I.hok hm.new)) (Nat.zero_le _)
structure FnAt (X : Cx) (B : Bd) (f : Nat) (fn : Fn) : Prop where
  at_ : ∃ k a fd ps, ps.length = fn.np ∧ X.mg fn.name = some (.ref a) ∧ PySem.W.keepIn X.K (.ref a) = true ∧ Binds X.K fd ps [] ∧ Room k X.A ∧ FnOk X.prog X.w X.K X.mg X.base (L2N.CX X.prog X.w) k a fd ps (spF B f)
structure HotAt (X : Cx) (B : Bd) (c : Nat) (x : PV) : Prop where
  at_ : ∃ (Y : Cx) (oe : Obj) (pn : List (Addr × Obj)) (dd : Option Addr) (vx : V), X = Cx.suite Y B.ea ((B.ea, oe) :: pn) ∧ L2N.Zn (.ref (B.ca c)) dd oe ∧ (∃ vs, oe.data = .fields vs) ∧ XfC X.K (B.ca c) ∧
    PySem.W.findIn X.K (.ref (B.ca c)) (fldOf B.P c) = some none ∧ ExH B.P B.F0 c dd vx ∧ Rep B.F0 x vx
/-- the names of the scope ts may be stored -/
def Tg (X : Cx) (ts : Scope) : Prop := ∀ x, locB ts x = true → Loc X.env.scope x ∧ (X.fn x = true ∨ X.env.scope.names.lookup x = some .local)
structure Cs (X : Cx) (B : Bd) : Prop where
  K : B.K = X.K
  nd : X.N.Nodup
  kind : X.env.scope.kind = .function
  un : X.A.units + 65 < cLine
  glb : ∀ (g : Nat) x v, B.P.glbs[g]? = some (x, v) → ∃ u w, X.mg x = some u ∧ RelV w u ∧ Rep B.F0 v w
  blt : ∀ x ∈ bnames, X.mg x = none
  tk : L2N.Takes X B.W
  cf : CfOk B.cf
  cold : B.hx = none → X.calm = true
  fns : B.hx = none → ∀ (f : Nat) fn, B.P.fns[f]? = some fn → FnAt X B f fn
  hot : ∀ j c x, B.hx = some (j, c, x) → HotAt X B c x
  clsN : ∀ (k : Nat) cl, B.P.cls[k]? = some cl → X.mg cl.name = some (.ref (B.ca k))
  kit : ∀ c k, c < B.P.cls.length → k < B.P.cls.length → PySem.W.kitOne X.K (.ref (B.ca c)) (.ref (B.ca k)) = some (isUp B.P c k)
  xi : ∀ c, c < B.P.cls.length → XcC X.K (B.ca c)
  vi : ∀ c, c < B.P.cls.length → PySem.W.kitOne X.K (.ref (B.ca c)) (.type "ValueError") = some true
  own : ∀ (c : Nat) cl, B.P.cls[c]? = some cl → cl.field = noF → OwnC X.K (B.ca c)

/-! ### weakening -/
section
variable {X : Cx} {B : Bd}
theorem PE.weak {e : Expr} {t t' : TE} (p : PE X e t) (h : ∀ σ H Q, t' σ H Q → t σ H Q) : PE X e t' := ⟨fun pins s σ H Q I q => p.run pins s σ H Q I (h σ H Q q)⟩
theorem PT.weak {e : Expr} {t t' : TT} (p : PT X e t) (h : ∀ σ H Q, t' σ H Q → t σ H Q) : PT X e t' := ⟨fun pins s σ H Q I q => p.run pins s σ H Q I (h σ H Q q)⟩
theorem PW.weak {e : Expr} {t t' : TT} (p : PW X e t) (h : ∀ σ H Q, t' σ H Q → t σ H Q) : PW X e t' := ⟨fun wh pins s σ H Q I q => p.run wh pins s σ H Q I (h σ H Q q)⟩
theorem PA.weak {e : List Expr} {t t' : TA} (p : PA X e t) (h : ∀ σ H Q, t' σ H Q → t σ H Q) : PA X e t' := ⟨fun pos pins s σ H Q I q => p.run pos pins s σ H Q I (h σ H Q q)⟩
theorem PI.weak {tg e : Expr} {t t' : TI} (p : PI X tg e t) (h : ∀ σ H Q, t' σ H Q → t σ H Q) : PI X tg e t' := ⟨fun pins s σ H Q I q => p.run pins s σ H Q I (h σ H Q q)⟩
theorem PG.weak {e : Expr} {t t' : TG} (p : PG X e t) (h : ∀ v σ H Q, t' v σ H Q → t v σ H Q) : PG X e t' := ⟨fun pins s σ H v u Q I r q => p.run pins s σ H v u Q I r (h v σ H Q q)⟩
theorem PGs.weak {e : List Expr} {t t' : TGs} (p : PGs X e t) (h : ∀ v σ H Q, t' v σ H Q → t v σ H Q) : PGs X e t' := ⟨fun pins s σ H v u Q I r q => p.run pins s σ H v u Q I r (h v σ H Q q)⟩
theorem vis_of {sc : Scope} {x : Str} (h : visB sc x = true) : Vis sc x := by
  unfold visB at h
  split at h
  · exact .inl (by assumption)
  · exact .inr (.inl (by assumption))
  · exact .inr (.inr (by assumption))
  · cases h
theorem loc_of {sc : Scope} {x : Str} (h : locB sc x = true) : Loc sc x := by
  unfold locB at h
  split at h
  · exact .inl (by assumption)
  · exact .inr (by assumption)
  · cases h
theorem gl_of {x : Str} (h : glB X.env.scope x = true)   : Gl X x := (of_decide_eq_true h : X.env.scope.names.lookup x = some .globalImplicit)
theorem dbg_of {x : Str} (h : dbg x = true) : (x == ("__debug__" : Str)) = false ∧ (x == ("__classdict__" : Str)) = false := by
  unfold dbg at h
  simp only [Bool.and_eq_true, Bool.not_eq_true'] at h
  exact h
theorem star_of {env : PySem.Env} {e : Expr} {es : List Expr} (h : notStar e = true) : starEach (e :: es) env = (false, eval e env) :: starEach es env := by
  cases e <;> first | rfl | cases h
theorem gen_of {env : PySem.Env} {e : Expr} (h : gen e = true) : ∀ whole, isTrue e env whole = (do let v ← whole; standAt e.pos; holding [v] (truthy v)) := by
  intro whole
  cases e with
  | UnaryOp op a p => cases op <;> first | rfl | cases h
  | _ => first | rfl | cases h
theorem plainIx_of {e : Expr} (h : plainIx e = true) : PlainIx e := by
  intro o i
  cases e <;> first | rfl | cases h
end
end MP
set_option Elab.async false
set_option linter.all false
set_option maxRecDepth 100000
set_option maxHeartbeats 2000000
/-! MA: bit_length, f'{i:b}', a text backwards, count, sorted(set(..)), list(range(..)), enumerate. -/
namespace MP
open PySem L2 PySem.Spec PyProof.Rows Builtin
open Sem (wp)
def bSp : Str := "b"
theorem parse_b : Float.parseFormatSpec bSp.cps.toList "int" 62 = .ok { align := 62, type := some 98 } := by kernel_rfl
section
variable {prog : Program} {w : World} {A : Around} {E : Value → Shared → Prop} {s : Shared}
theorem field_b {a : Int} {t : Tok} {Q : Value → Shared → Prop} (h0 : 0 ≤ a) (hz : (binS a.natAbs).length ≤ sizeLine) (h : Q (.str (binS a.natAbs) (s.toks + 1)) { s with toks := s.toks + 1 + 1 }) :
    wpAny (model prog w) A (formatField (.int a t) bSp) Q E s := by
  show wpAny _ _ (holding [.int a t] (pyFormat (.int a t) bSp)) Q E s
  refine wpAny_holding ?_
  unfold pyFormat
  refine wpAny_bind (wpAny_mkStr ?_ (by decide))
  refine wpAny_bind (m := callSpecial? (.int a t) (Str.ofString "__format__") [.str bSp s.toks]) (wpAny_callSpecial?_slot (name := Str.ofString "__format__") (typeIs_int _ a t) slot_int_format ?_)
  refine wpAny_call (codeAny_call_builtin slot_int_format.plain entry_int_format (slot_int_format.check _ _ _ _ _ _ _ _ (typeIs_int _ a t) (args_int_format _ _) ?_))
  unfold Builtin.«int.__format__»
  have e1 : (bSp.length == 0) = false := rfl
  have e2 : ((bSp.cps.toList.drop 1).any (· ≥ 128) || (bSp.cps.getD 0 0 ≥ 128 && !([60, 62, 61, 94] : List Nat).contains (bSp.cps.getD 1 0))) = false := by decide
  simp only [selfAndOne, noKeywords, Int.intOfSelf, asInt?, asStr?, List.isEmpty_nil, if_true, pure_bind, bind_pure, bind_assoc, e1, e2, Bool.false_eq_true, if_false,
    show (Value.str bSp s.toks == Value.none) = false from rfl]
  refine wpAny_bind (wpAny_typeNameOf (T := "str") (typeIs_str _ _ _) (by decide) fun _ => ?_)
  refine wpAny_bind (wpAny_typeNameOfCut_int ?_)
  simp only [parse_b]
  rw [if_pos (by decide)]
  have neg : decide (a < 0) = false := decide_eq_false (by omega)
  show wpAny _ _ (retStr _) _ _ _
  unfold retStr
  have key : ∀ z : Str, z = binS a.natAbs → wpAny (model prog w) A.in1 (do
      let r ← mkStr z
      ret r) (fun fin s' => match fin with
      | Fin.done f => (match Except.ok f with
        | Except.ok (Flow.ret v) => wpAny (model prog w) A (do
              let r ← isInstance v (Value.type "str")
              if r = true then pure v
                else do
                  rule "format.no-str"
                  let r ← typeNameOf v
                  raiseErrorMade "TypeError" (toString "__format__ must return a str, not " ++ toString r)) Q E s'
        | Except.ok a => False
        | Except.error e => E e s')
      | Fin.again c' => c'.quiet = true ∧ codeAny (model prog w) A c' (fun r s' => match r with
        | Except.ok (Flow.ret v) => wpAny (model prog w) A (do
              let r ← isInstance v (Value.type "str")
              if r = true then pure v
                else do
                  rule "format.no-str"
                  let r ← typeNameOf v
                  raiseErrorMade "TypeError" (toString "__format__ must return a str, not " ++ toString r)) Q E s'
        | Except.ok a => False
        | Except.error e => E e s') s') (fun e s' => E e s') { s with toks := s.toks + 1 } := by
    rintro z rfl
    refine wpAny_bind (wpAny_mkStr (wpAny_pure ?_) hz)
    dsimp only
    exact wpAny_bind (wpAny_isInstance (typeIs_str _ _ _) isSubtype_str_str (wpAny_pure h))
  refine key _ ?_
  rw [neg]
  show (⟨_⟩ : Str) = ⟨_⟩
  generalize Nat.toDigits 2 a.natAbs = cs
  have e4 : cs.map (fun c => (if ((some 98).getD (if (bSp.cps.back? == some 0) = true then 0 else 100) == 88) = true then c.toUpper else c).toNat) = cs.map Char.toNat := by
    refine List.map_congr_left fun c _ => ?_
    rw [if_neg (by decide)]
  rw [e4]
  generalize cs.map Char.toNat = ds
  cases ds with
  | nil => rfl
  | cons d ds =>
    have e5 : List.replicate ((0 : Int).toNat - (d :: ds).length) 48 = [] := by
      rw [show (0 : Int).toNat - (d :: ds).length = 0 from Nat.zero_sub _]
      rfl
    simp [e5]
    omega
end
section
variable {X : Cx} {B : Bd} {o : Expr} {a b : E} {apos pos : Pos}
theorem u_as {p : Prim} {σ : L2.St} {H : Hp} {Q : VK} (hd : isDisp p = false) (h : tE B (.prim p (.cons a .nil)) σ H Q) :
    tE B a σ H fun x H1 => ∃ F cs y r, Fr B.K F H1 cs ∧ Rdb B.K F H1 y x ∧ prim p [y] = some r ∧ PRok F r H1 Q := (prim1 hd h).mono fun x H1 h => by
  obtain ⟨F, cs, pvs, r, f, rd, hp, q⟩ := h
  have e := rdbs_len rd
  match pvs, e, rd, hp with
  | [y], _, rd, hp => exact ⟨F, cs, y, r, f, rdbs1 rd, hp, q⟩
theorem pe_fmtBX {to : TE} {k : Nat} {p1 p2 p3 : Pos} (ho : PE X o to) : PE X (.JoinedStr [.FormattedValue o (-1) (some (.JoinedStr [.Constant (.str "b") k p1] p2)) p3] pos) (fun σ H Q => to σ H fun x H1 => ∃ i : Int, x = .int i ∧ 0 ≤ i ∧ (binS i.natAbs).length ≤ sizeLine ∧ Q (.str (binS i.natAbs)) H1) := by
  refine pe_joined1 ⟨fun pins s σ H Q I h => ?_⟩
  refine wpAny_FormattedValue_spec (thn (ho.run pins s σ H _ I h) fun v s1 ⟨x, H1, I1, r1, i, ex, hi, hz, q⟩ => ?_)
  subst ex
  obtain ⟨t, rfl⟩ := r1
  refine thn ((pe_joined1 (pos := p2) (pe_str (X := X) (x := "b") (j := k) (pos := p1))).run pins s1 σ H1 (fun z H2 => z = .str "b" ∧ H2 = H1) I1 ⟨rfl, rfl⟩) fun v s2 ⟨z, H2, I2, r2, ez, eH⟩ => ?_
  subst ez eH
  obtain ⟨t2, rfl⟩ := r2
  exact ⟨bSp, t2, rfl, field_b hi hz ⟨.str _, H2, I2.tok _, ⟨_, rfl⟩, q⟩⟩
theorem pe_fmtB {k : Nat} {p1 p2 p3 : Pos} (ho : PE X o (tE B a)) : PE X (.JoinedStr [.FormattedValue o (-1) (some (.JoinedStr [.Constant (.str "b") k p1] p2)) p3] pos) (tE B (.prim .fmtB (.cons a .nil))) :=
  PE.weak (pe_fmtBX ho) fun σ H Q h => (u_as rfl h).mono fun x H1 ⟨F, cs, y, r, f, rd, hp, q⟩ => by
    cases y <;> simp only [prim] at hp <;> try (cases hp; done)
    split at hp
    case isFalse => cases hp
    rename_i i hi
    cases hp
    exact ⟨i, rdb_int rd, hi.1, Nat.le_trans hi.2 (by decide), q _ (rep_str.mpr rfl)⟩
theorem pe_bitsU (ho : PE X o (tE B a)) (hbase : attributeBase o "bit_length" X.env (eval o X.env) = eval o X.env) (hline : (apos.endLine == pos.line) = true) : PE X (.Call (.Attribute o "bit_length" apos) [] [] pos) (tE B (.prim .bits (.cons a .nil))) :=
  PE.weak (pe_bits ho hbase hline) fun σ H Q h => (u_as rfl h).mono fun x H1 ⟨F, cs, y, r, f, rd, hp, q⟩ => by
    cases y <;> simp only [prim] at hp <;> try (cases hp; done)
    cases hp
    exact ⟨_, rdb_int rd, q _ (rep_int.mpr rfl)⟩
/-- a text backwards -/
def tRevS (te : TE) : TE := fun σ H Q => te σ H fun x H1 => ∃ z : Str, x = .str z ∧ z.length ≤ sizeLine ∧ Q (.str ⟨z.cps.toList.reverse.toArray⟩) H1
theorem back_ix (z : Str) : (⟨((Str.strSliceIndices none none (-1) z.length).filterMap (z.cps[·]?)).toArray⟩ : Str) = ⟨z.cps.toList.reverse.toArray⟩ := by
  have e : Str.strSliceIndices none none (-1) z.length = (List.range z.cps.size).reverse := by
    show sliceRange ((z.cps.size : Int) - 1) (-1) (-1) = _
    rw [PySem.W.krv_sliceRange, PySem.W.krv_range]
  rw [e, List.filterMap_reverse, PySem.W.krv_all]
theorem pe_revS {te : TE} {k : Nat} {p1 p2 p3 : Pos} (he : PE X o te) : PE X (.Subscript o (.Slice none none (some (.UnaryOp .USub (.Constant (.int 1) k p1) p2)) p3) pos) (tRevS te) := by
  refine ⟨fun pins s σ H Q I h => Subscript_ (thn (he.run pins s σ H _ I h) fun v s1 ⟨x, H1, I1, r1, z, ex, hz, q⟩ => ?_)⟩
  subst ex
  obtain ⟨t, rfl⟩ := r1
  have hst : PO X (some (.UnaryOp .USub (.Constant (.int 1) k p1) p2)) (tPart (tUn (rU fun i => .int (-i)) (tC (.int 1)))) := po_some (pe_un un_neg pe_int)
  refine wpAny_Slice (thn (po_none.run pins s1 σ H1 (fun o H2 => o = none ∧ H2 = H1) I1 ⟨rfl, rfl⟩) fun vl s2 ⟨l, H2, I2, pl, el, e2⟩ => thn (po_none.run pins s2 σ H2 (fun o H3 => o = none ∧ H3 = H2) I2 ⟨rfl, rfl⟩) fun vu s3 ⟨u, H3, I3, pu, eu, e3⟩ => ?_)
  subst el e2 eu e3
  refine thn (hst.run pins s3 σ H3 (fun o H4 => o = some (-1) ∧ H4 = H3) I3 ⟨1, rfl, -1, rfl, rfl, rfl⟩) fun vs s4 ⟨o4, H4, I4, ps, eo, e4⟩ => ?_
  subst eo e4
  obtain ⟨l, rfl, hl⟩ := IsPart.raw pl
  obtain ⟨u, rfl, hu⟩ := IsPart.raw pu
  obtain ⟨m, rfl, hm⟩ := IsPart.raw ps
  obtain rfl : l = none := by cases l with | none => rfl | some => cases hl
  obtain rfl : u = none := by cases u with | none => rfl | some => cases hu
  obtain ⟨m, rfl⟩ : ∃ y, m = some (-1, y) := by
    cases m with
    | none => cases hm
    | some y =>
      obtain ⟨y1, y2⟩ := y
      cases hm
      exact ⟨y2, rfl⟩
  have I5 : Inv X pins σ H4 { s4 with heap := s4.heap.push { cls := .type "slice", data := .fields #[partValue none, partValue none, partValue (some (-1, m))] } } := I4.kept (t' := s4.toks) fun b ob q => Heap.get?_push_of_some _ q
  refine tail_any (ops := [.str z t, .ref s4.heap.objs.size]) (typeIs_str _ _ _) F.slot_str_getitem.lookup ?_ (by with_unfolding_all rfl)
  refine wpAny_getItem_str_slice (l := none) (u := none) (st := some (-1, m)) ⟨_, Heap.get?_push_size _ rfl, rfl, rfl⟩ rfl ?_
  show Made.post (if ((-1 : Int) == 1 && _) = true then Made.val (.str z t) else Made.str ⟨((Str.strSliceIndices none none (-1) z.length).filterMap (z.cps[·]?)).toArray⟩) (EP X pins σ Q) _
  rw [show ((-1 : Int) == 1) = false from rfl, Bool.false_and, if_neg (by decide), back_ix]
  refine ⟨?_, .str _, H4, I5.tok _, ⟨_, rfl⟩, q⟩
  show (z.cps.toList.reverse.toArray).size ≤ sizeLine
  rw [List.size_toArray, List.length_reverse, Array.length_toList]
  exact hz
theorem pe_revU {k : Nat} {p1 p2 p3 : Pos} (ho : PE X o (tE B a)) : PE X (.Subscript o (.Slice none none (some (.UnaryOp .USub (.Constant (.int 1) k p1) p2)) p3) pos) (tE B (.prim .rev (.cons a .nil))) :=
  PE.weak (pe_revS ho) fun σ H Q h => (u_as rfl h).mono fun x H1 ⟨F, cs, y, r, f, rd, hp, q⟩ => by
    cases y <;> simp only [prim] at hp <;> try (cases hp; done)
    split at hp
    case isFalse => cases hp
    rename_i z hz
    cases hp
    exact ⟨z, rdb_str rd, Nat.le_trans hz (by decide), q _ (rep_str.mpr rfl)⟩
theorem pe_cntU {z : Str} {k : Nat} {p1 : Pos} (ho : PE X o (tE B a)) (hbase : attributeBase o "count" X.env (eval o X.env) = eval o X.env) (hline : (apos.endLine == pos.line) = true) :
    PE X (.Call (.Attribute o "count" apos) [.Constant (.str z) k p1] [] pos) (tE B (.prim (.cnt z) (.cons a .nil))) :=
  PE.weak (pe_bm F.plainAttrs_str F.slot_str_count F.type_str_count mt_count ho (pa_cons pe_str pa_nil) hbase rfl hline) fun σ H Q h => (u_as rfl h).mono fun x H1 ⟨F, cs, y, r, f, rd, hp, q⟩ => by
    cases y <;> simp only [prim] at hp <;> try (cases hp; done)
    cases hp
    obtain rfl := rdb_str rd
    exact ⟨rfl, _, _, rfl, rfl, q _ (rep_int.mpr rfl)⟩
theorem pe_lrng {e1 e2 : Expr} {p p2 pos2 : Pos} (hc : X.calm = true) (hg : Gl X "list") (hm : X.mg "list" = none) (hg2 : Gl X "range") (hm2 : X.mg "range" = none) (h1 : PE X e1 (tE B a)) (h2 : PE X e2 (tE B b)) (s1 : notStar e1 = true) (s2 : notStar e2 = true) :
    PE X (.Call (.Name "list" p) [.Call (.Name "range" p2) [e1, e2] [] pos2] [] pos) (tE B (.prim .lrng (.cons a (.cons b .nil)))) :=
  PE.weak (pe_listRg hc hg hm (prg_2 hg2 hm2 h1 h2 (star_of s1) (star_of s2) (by rw [star_of s2]; rfl)) (by rfl)) fun σ H Q h => (prim2 rfl h).mono fun x H1 h => h.mono fun y H2 h => by
    obtain ⟨F, cs, pvs, r, f, rd, hp, q⟩ := h
    obtain ⟨u, v, rfl⟩ := rdbs_shape2 rd
    obtain ⟨rx, ry⟩ := rdbs2 rd
    cases u <;> cases v <;> simp only [prim] at hp <;> try (cases hp; done)
    rename_i i j
    split at hp
    case isFalse => cases hp
    rename_i hz
    simp only [rngOk, Bool.and_eq_true, decide_eq_true_eq] at hz
    cases hp
    obtain ⟨⟨⟨a1, a2⟩, b1, b2⟩, hz⟩ := hz
    refine ⟨i, j, rdb_int rx, rdb_int ry, ⟨a1, a2, b1, b2, Nat.le_trans hz (by decide)⟩, fun p hp => ?_⟩
    have e : rgV i j = ((List.range (j - i).toNat).map fun k : Nat => i + (k : Int)).map V.int := by
      unfold rgV
      rw [List.map_map]
      rfl
    rw [e]
    refine q p _ hp ?_
    rw [show rangeL i j = ((List.range (j - i).toNat).map fun k : Nat => i + (k : Int)).map PV.int by unfold rangeL; rw [List.map_map]; rfl]
    exact RepL.ints _
end
/-! ### sorted(set(list of ints)) -/
abbrev set0 (w : World) : Obj := { cls := .type "set", dict := none, data := .set #[] 0 (.fresh 0 0 (!w.params.followText "set-order")) }
section
variable {P : Program} {w : World} {A : Around} {E : Value → Shared → Prop} {s : Shared}
def SetMade (w : World) (s : Shared) (ns : List Int) (Q : Value → Shared → Prop) : Prop := ∀ (h' : Heap) (tk c : Nat), SetR w h' s.heap.objs.size (fun j => decide (j ∈ ns)) c → c ≤ ns.length → (∀ b o, s.heap.get? b = some o → h'.get? b = some o) → Q (.ref s.heap.objs.size) { s with heap := h', toks := tk }
/-- its __init__ over a list -/
theorem set_fill {l : Addr} {items : Array Value} {ns : List Int} {R : Fin → Shared → Prop} {E' : Value → Shared → Prop} (hh : A.handled = none) (hl : s.heap.IsList l items) (hit : IntsAre items.toList ns) (hb : ns.length + 1 < scanBound)
    (h : SetMade w s ns fun _ s' => R (.done (.ret .none)) s') : wpAny (model P w) A («set.__init__» ⟨[.ref s.heap.objs.size, .ref l], []⟩) R E' { s with heap := s.heap.push (set0 w) } := by
  obtain ⟨⟨c0, d0, dt0, sl0⟩, hol, hcl, nl, hdl⟩ := hl
  dsimp only at hcl hdl
  subst hcl hdl
  have g1 : (s.heap.push (set0 w)).get? l = some { cls := .type "list", dict := d0, data := .seq items nl, slots := sl0 } := Heap.get?_push_of_some _ hol
  have g2 := F.sub_list_set
  have g3 := F.sub_list_frozenset
  have g4 : (Value.type "list" == Value.type "dict") = false := rfl
  have g5 : (s.heap.push (set0 w)).get? s.heap.objs.size = some (set0 w) := Heap.get?_push_size _ rfl
  have g6 : Shared.TypeIs { s with heap := s.heap.push (set0 w) } (.ref s.heap.objs.size) "set" := ⟨_, g5, rfl⟩
  unfold Builtin.«set.__init__» noKeywords Builtin.Frozenset.updateFrom
  generalize hPI : pyIter = PI
  wp_walk
  subst hPI
  have lt1 : l < s.heap.objs.size := Heap.lt_size hol
  have ez : (s.heap.push (set0 w)).objs.size = s.heap.objs.size + 1 := Heap.size_push ..
  have hn : items.size = ns.length := by
    have q := IntsAre.length hit
    rwa [Array.length_toList] at q
  refine wpAny_pyIter_list (items := items) ⟨_, g1, rfl, nl, rfl⟩ (wpAny_bind (wpAny_runValue ?_))
  refine set_update_ints (n := items.size) ((Walks.list (A := A.in1) (by simpa using hh) (s.heap.push (set0 w)).objs.size l (Nat.ne_of_lt (by rw [ez]; exact Nat.lt_succ_of_lt lt1)) items).toS) s.heap.objs.size (by
    simp only [List.mem_cons, List.not_mem_nil, or_false, not_or]
    exact ⟨Nat.ne_of_lt (by rw [ez]; exact Nat.lt_succ_self _), Nat.ne_of_gt lt1⟩) ns hn hb (fun i v hv => ?_) _ 0 _ rfl (Nat.zero_le _) ⟨⟨_, Heap.get?_push_size _ rfl, rfl, rfl⟩, ⟨_, Heap.get?_push_of_some _ g1, rfl, nl, rfl⟩⟩ ⟨0, Nat.le_refl 0, setR_new_at (Heap.get?_push_of_some _ g5)⟩ fun s' c hm hc hS => ?_
  · have hi : i < ns.length := by rw [← hn]; exact (Array.getElem?_eq_some_iff.mp hv).1
    obtain ⟨t, e⟩ := IntsAre.int_at hit i v (by rw [Array.getElem?_toList]; exact hv)
    exact ⟨_, t, List.getElem?_eq_getElem hi, by rw [e, List.getD_eq_getElem?_getD, List.getElem?_eq_getElem hi] <;> rfl⟩
  · have eg := hm.gens
    have ed := hm.drawn
    have eo := hm.os
    obtain ⟨h', g', d', t', o'⟩ := s'
    dsimp only at eg ed eo
    subst eg ed eo
    refine wpAny_pure (wpAny_pure (h h' t' c hS (hn ▸ hc) fun b o e => ?_))
    have hb := Heap.lt_size e
    refine hm.heap b o ?_ (Heap.get?_push_of_some _ (Heap.get?_push_of_some _ e))
    simp only [List.mem_cons, List.not_mem_nil, or_false, not_or]
    exact ⟨Nat.ne_of_lt hb, Nat.ne_of_lt (by rw [ez]; exact Nat.lt_succ_of_lt hb)⟩
/-- set(list) of ints -/
theorem set_ints {l : Addr} {items : Array Value} {ns : List Int} {Q : Value → Shared → Prop} (hh : A.handled = none) (hl : s.heap.IsList l items) (hit : IntsAre items.toList ns) (hb : ns.length + 1 < scanBound)
    (h : SetMade w s ns Q) : wpAny (model P w) A (call (.type "set") [.ref l]) Q E s := by
  obtain ⟨c, tl, hmro⟩ := F.called_set.mro
  have k1 := F.called_set.made
  have k2 := F.called_set.sub
  have k3 := F.called_set.notType
  have k4 := F.called_set.canCreate
  have k5 := F.typeCall_set_1 (.ref l)
  refine wpAny_call (codeAny_of_tree (show wpAny _ _ (callAny (.type "set") _) _ _ _ from wpAny_pure ⟨Code.quiet_builtin _ (by decide +kernel), codeAny_builtin F.entry_type_call ?_⟩))
  rw [Around.under_plain (weight_type_call_type "set" [.ref l] []) rfl]
  repeat (any_goals (first | assumption | wp_step))
  refine codeAny_mono (code_set_led1 (.ref l) (E := E) (Q₁ := fun obj s₁ => obj = .ref s.heap.objs.size ∧ s₁ = { s with heap := s.heap.push (set0 w) }) ⟨rfl, rfl⟩) fun r s₁ hr => ?_
  match r, hr with
  | .error e, hr => exact hr
  | .ok .next, hr => exact hr.elim
  | .ok .brk, hr => exact hr.elim
  | .ok .cont, hr => exact hr.elim
  | .ok (.ret obj), hr =>
    obtain ⟨e1, e2⟩ := hr
    subst e1 e2
    have k6 : Shared.TypeIs { s with heap := s.heap.push (set0 w) } (.ref s.heap.objs.size) "set" := ⟨_, Heap.get?_push_size _ rfl, rfl⟩
    have k7 := F.called_set.init.lookup
    have k8 := F.called_set.init.bind (.ref s.heap.objs.size)
    repeat (any_goals (first | assumption | wp_step))
    refine codeAny_mono (codeAny_call_builtin (R := wants (fun r s₂ => r = .none ∧ Q (.ref s.heap.objs.size) s₂) E) F.called_set.init.plain F.entry_set_init (check_set_init_1 k6 (set_fill (by simpa using hh) hl hit hb fun h' tk c hS hc hk => ?_))) fun r₂ s₂ hr₂ => ?_
    · exact ⟨rfl, h h' tk c hS hc hk⟩
    · match r₂, hr₂ with
      | .error e, hr => exact hr
      | .ok .next, hr => exact hr.elim
      | .ok .brk, hr => exact hr.elim
      | .ok .cont, hr => exact hr.elim
      | .ok (.ret r), hr =>
        obtain ⟨rfl, hq⟩ := hr
        repeat (any_goals (first | assumption | wp_step))
end
section
variable {X : Cx} {B : Bd} {o : Expr} {a : E} {pos : Pos}
def rSetNs (K : PySem.W.Frag) (w : World) : List V → Hp → VK → Prop := fun xs H Q => ∃ (l : Addr) (ns : List Int), xs = [V.ref l] ∧ SqL K H l (ns.map V.int) ∧ ns.length < 1000 ∧ ∀ (p : Addr) (c : Nat), H p = none → c ≤ ns.length → Q (.ref p) (upd H p (SetO w p (fun j => decide (j ∈ ns)) c))
theorem cr_setL (hc : X.calm = true) : CallR X (.type "set") (rSetNs X.K X.w) := by
  intro pins s σ H vs us Q I r h
  obtain ⟨l, ns, rfl, hl, hn, q⟩ := h
  rw [Vals.ref1 r]
  obtain ⟨its, rv, p, hz⟩ := I.list hl
  refine set_ints (ns := ns) (I.ok.hd hc) p.isList (by rw [List.toList_toArray]; exact ints_of_vals rv) (Nat.lt_of_lt_of_le (by omega : ns.length + 1 < 1002) (by decide)) fun h' tk c hS hc hk => ?_
  have hn : H s.heap.objs.size = none := I.hok.fresh (Nat.le_refl _)
  exact ⟨.ref s.heap.objs.size, _, I.laid (t' := tk) hk (Nat.le_refl _) (setO_new hS), rfl, q _ c hn hc⟩
/-- something that nobody looks at -/
theorem INV.newG {K : PySem.W.Frag} {F : Fz} {R : List Root} {H : Hp} {p : Addr} {o : HO} (i : INV K F R H) (hp : H p = none) : ∃ F', F.le F' ∧ INV K F' R (upd H p o) := by
  obtain ⟨cs, a, f⟩ := i
  refine ⟨F, .refl _, cs, a, fun b u h => ?_, fun q hq => ?_, f.nd⟩
  · rcases f.has b u h with ⟨x, y⟩ | h
    · obtain ⟨v, hv⟩ := x.there
      exact .inl ⟨x.upd (ne_of_none hv hp), y⟩
    · exact .inr h
  · exact (upd_ne (ne_of_none (f.own q hq) hp)).trans (f.own q hq)
theorem prim_sset {pvs : List PV} {r : PRes} (h : prim .sset pvs = some r) : ∃ xs ns, pvs = [.lst xs] ∧ intsOf xs = some ns ∧ ns.length < 64 ∧ r = .newL ((uset ns).map PV.int) := by
  rcases pvs with _ | ⟨x, _ | ⟨y, z⟩⟩
  · simp [prim] at h
  · cases x <;> simp only [prim] at h <;> try (cases h; done)
    rename_i xs
    cases hi : intsOf xs with
    | none => rw [hi] at h; cases h
    | some ns =>
      rw [hi] at h
      dsimp only [Option.bind] at h
      split at h
      · rename_i h64
        cases h
        exact ⟨xs, ns, rfl, hi, h64, rfl⟩
      · cases h
  · simp [prim] at h
theorem sset_as' {σ : L2.St} {H : Hp} {Q : VK} (h : tE B (.prim .sset (.cons a .nil)) σ H Q) : SAs B (.cons a .nil) σ H fun xs H1 => ∃ (l : Addr) (ns : List Int), xs = [.ref l] ∧ SqL B.K H1 l (ns.map V.int) ∧ ns.length < 64 ∧
    ∀ (p q : Addr) (o : HO), H1 p = none → upd H1 p o q = none → Q (.ref q) (upd (upd H1 p o) q (.lst ((uset ns).map V.int))) := by
  obtain ⟨F, env, T, l0, w, i, h⟩ := h
  refine ⟨F, env, T, [], [], l0, w, i, rfl, ?_⟩
  rw [evA] at h
  by_cases hn : (B.hx.isSome && needsCalm .sset) = true
  · rw [if_pos hn] at h; exact h.elim
  rw [if_neg hn] at h
  cases hs : evAs B.P B.cf B.hx (.cons a .nil) [] env with
  | stuck => rw [hs] at h; exact h
  | exc c x env' => rw [hs] at h; exact h
  | ok as env' =>
    rw [hs] at h
    have h : poA B σ T Q F env (match (if isDisp .sset = true then settles as env' else (resolves env' as).map fun vs => (vs, env')) with
      | some (vs, env) => match prim .sset vs with
        | some r => .ok (.val (ofPRes r).1 (ofPRes r).2) env
        | none => .stuck
      | none => .stuck) := h
    rw [if_neg (by decide)] at h
    intro F1 H1 vs l1 k1 w1 i1 ok1
    cases hr : resolves env' as with
    | none => rw [hr] at h; exact h.elim
    | some pvs =>
      rw [hr] at h
      dsimp only [Option.map] at h
      cases hp : prim .sset pvs with
      | none => simp only [hp] at h; exact h.elim
      | some r =>
        simp only [hp] at h
        obtain ⟨xs, ns, rfl, hi, h64, rfl⟩ := prim_sset hp
        obtain ⟨F2, l2, i2, rd⟩ := rdbs_of i1 ok1 hr
        simp only [List.nil_append] at rd
        have e := rdbs_len rd
        match vs, e, rd with
        | [v], _, rd =>
          obtain ⟨b, us, rfl, h1, l⟩ := rdbs1 rd
          rw [intsOf_eq hi] at l
          obtain rfl := repL_ints l
          refine ⟨b, ns, rfl, .of h1, h64, fun p q o hp hq => ?_⟩
          obtain ⟨F3, l3, i3⟩ := i2.newG (o := o) hp
          exact h F3 _ _ ((l1.trans l2).trans l3) k1 w1 (i3.newL hq (RepL.ints _)).mid trivial
theorem sset_as {σ : L2.St} {H : Hp} {Q : VK} (h : tE B (.prim .sset (.cons a .nil)) σ H Q) : tE B a σ H fun x H1 => ∃ (l : Addr) (ns : List Int), x = .ref l ∧ SqL B.K H1 l (ns.map V.int) ∧ ns.length < 64 ∧
    ∀ (p q : Addr) (o : HO), H1 p = none → upd H1 p o q = none → Q (.ref q) (upd (upd H1 p o) q (.lst ((uset ns).map V.int))) :=
  (sas1 (sset_as' h)).mono fun x H1 ⟨l, ns, e, q⟩ => ⟨l, ns, by cases e; rfl, q⟩
theorem insU_mem (x k : Int) : ∀ l : List Int, k ∈ insU x l ↔ k = x ∨ k ∈ l
  | [] => by simp [insU]
  | y :: ys => by
    unfold insU
    by_cases h1 : x < y
    · rw [if_pos h1]; simp
    · rw [if_neg h1]
      by_cases h2 : x = y
      · rw [if_pos h2]; subst h2; simp
      · rw [if_neg h2, List.mem_cons, insU_mem x k ys, List.mem_cons]
        constructor
        · rintro (h | h | h) <;> simp [h]
        · rintro (h | h | h) <;> simp [h]
theorem insU_lt (x : Int) : ∀ l : List Int, l.Pairwise (· < ·) → (insU x l).Pairwise (· < ·)
  | [], _ => List.pairwise_singleton _ _
  | y :: ys, h => by
    obtain ⟨h1, h2⟩ := List.pairwise_cons.mp h
    unfold insU
    by_cases c1 : x < y
    · rw [if_pos c1]
      refine List.pairwise_cons.mpr ⟨fun z hz => ?_, h⟩
      rcases List.mem_cons.mp hz with rfl | hz
      · exact c1
      · exact Int.lt_trans c1 (h1 z hz)
    · rw [if_neg c1]
      by_cases c2 : x = y
      · rw [if_pos c2]; exact h
      · rw [if_neg c2]
        refine List.pairwise_cons.mpr ⟨fun z hz => ?_, insU_lt x ys h2⟩
        rcases (insU_mem x z ys).mp hz with rfl | hz
        · omega
        · exact h1 z hz
theorem uset_mem (k : Int) : ∀ l : List Int, k ∈ uset l ↔ k ∈ l
  | [] => by simp [uset]
  | x :: xs => by rw [uset, insU_mem, uset_mem k xs, List.mem_cons]
theorem uset_lt : ∀ l : List Int, (uset l).Pairwise (· < ·)
  | [] => .nil
  | x :: xs => insU_lt x _ (uset_lt xs)
theorem lt_uniq : ∀ {a b : List Int}, a.Pairwise (· < ·) → b.Pairwise (· < ·) → (∀ k, k ∈ a ↔ k ∈ b) → a = b
  | [], [], _, _, _ => rfl
  | [], y :: ys, _, _, h => absurd ((h y).mpr List.mem_cons_self) (by simp)
  | x :: xs, [], _, _, h => absurd ((h x).mp List.mem_cons_self) (by simp)
  | x :: xs, y :: ys, ha, hb, h => by
    obtain ⟨a1, a2⟩ := List.pairwise_cons.mp ha
    obtain ⟨b1, b2⟩ := List.pairwise_cons.mp hb
    have e : x = y := by
      rcases List.mem_cons.mp ((h x).mp List.mem_cons_self) with z | z
      · exact z
      · rcases List.mem_cons.mp ((h y).mpr List.mem_cons_self) with u | u
        · exact u.symm
        · have := b1 x z
          have := a1 y u
          omega
    subst e
    rw [lt_uniq a2 b2 fun k => ⟨fun hk => ?_, fun hk => ?_⟩]
    · rcases List.mem_cons.mp ((h k).mp (List.mem_cons_of_mem _ hk)) with rfl | z
      · exact absurd (a1 _ hk) (Int.lt_irrefl _)
      · exact z
    · rcases List.mem_cons.mp ((h k).mpr (List.mem_cons_of_mem _ hk)) with rfl | z
      · exact absurd (b1 _ hk) (Int.lt_irrefl _)
      · exact z
theorem pe_sset {p p2 pos2 : Pos} (hK : B.K = X.K) (hc : X.calm = true) (hg : Gl X "sorted") (hm : X.mg "sorted" = none) (hg2 : Gl X "set") (hm2 : X.mg "set" = none) (ho : PE X o (tE B a)) (s1 : notStar o = true) :
    PE X (.Call (.Name "sorted" p) [.Call (.Name "set" p2) [o] [] pos2] [] pos) (tE B (.prim .sset (.cons a .nil))) :=
  PE.weak (pe_callB (cr_sortedSet hc) hg hm (by decide +kernel) (pa_cons (pe_callTy (cr_setL hc) hg2 hm2 (by decide +kernel) (pa_cons ho pa_nil (star_of s1)) (he := star_of s1)) pa_nil)) fun σ H Q h => (sset_as h).mono fun x H1 ⟨l, ns, e, hl, h64, q⟩ => by
    refine ⟨l, ns, by rw [e], hK ▸ hl, by omega, fun p c hp hc => ⟨p, _, c, rfl, upd_same, by omega, fun ns' q' hs hmem _ hq => ?_⟩⟩
    obtain rfl : ns' = uset ns := lt_uniq hs (uset_lt ns) fun k => by rw [hmem, uset_mem]; simp
    exact q p q' _ hp hq
/-! ### enumerate of a text -/
/-- a text's signs with their numbers, in new pairs -/
def ItsE (z : Str) : It := ⟨fun i _ => i < z.cps.size, fun i H v H' => ∃ T c, v = .ref T ∧ H T = none ∧ H' = upd H T (.tup [.int (i : Nat), .str ⟨#[c]⟩]) ∧ z.cps[i]? = some c, fun i _ => i = z.cps.size⟩
theorem walk_enumS {z : Str} : Walk (ItsE z) z.cps.size (fun _ => True) (fun i H v H' => ∃ T c, v = .ref T ∧ H T = none ∧ H' = upd H T (.tup [.int (i : Nat), .str ⟨#[c]⟩]) ∧ z.cps[i]? = some c) :=
  ⟨fun _ _ hi _ => hi, fun _ _ => rfl, fun _ _ _ _ _ _ y => y⟩
theorem turn_enumS {P : Program} {w : World} {K : PySem.W.Frag} {elts : List Expr} {kk : Nat} {tpos : Pos} (z : Str) (t : Tok) (e it : Addr) :
    Turn P w K (.Tuple elts kk tpos) (ItsE z) [e, it] e (fun i h => (∃ old, IsEnum h e it ((i : Nat) : Int) old) ∧ h.IsStrIter it (strIterType z) z t i ∧ e ≠ it) where
  mem := by simp
  obj := fun i h st b hb => by
    obtain ⟨⟨old, he⟩, ⟨o, ho, hc, hd⟩, _⟩ := st
    rcases (by simpa using hb : b = e ∨ b = it) with z | z
    · rw [z]; exact ⟨_, he, fun v q => nomatch q⟩
    · rw [z]; exact ⟨o, ho, fun v q => by rw [hd] at q; cases q⟩
  keep := fun i h h' st k => let ⟨⟨old, he⟩, ⟨o, ho, r⟩, hne⟩ := st; ⟨⟨old, k e (by simp) _ he⟩, ⟨o, k it (by simp) o ho, r⟩, hne⟩
  item := by
    intro X hP hw hK hc i pins s σ H E I hf st hg
    subst hP hw hK
    obtain ⟨⟨old, he⟩, hit, hne⟩ := st
    have hel : e < s.heap.objs.size := Heap.lt_size he
    have hil : it < s.heap.objs.size := by obtain ⟨_, q, _⟩ := hit; exact Heap.lt_size q
    have D := Draws.text (prog := X.prog) (w := X.w) (A := X.A.in1) (by simpa using I.ok.hd hc) it z t
    refine wpAny_pyNext_enum_itemD D he hit hg hne (by simpa using hne) fun x h' tk hx ho hit' hT hsz hk => ?_
    obtain ⟨c, u, hcz, rfl⟩ := hx
    refine ⟨_, rfl, wpAny_letOwnedTupleGo_enum (s := { s with heap := h', toks := tk + 1 }) ho fun h'' he' sb => ?_⟩
    have hT2 : h''.get? s.heap.objs.size = some { cls := .type "tuple", data := .seq #[.int i tk, .str ⟨#[c]⟩ u] } := (sb.2 _ (Nat.ne_of_gt hel)).trans hT
    have new : ObjOk X.prog X.w (upd H s.heap.objs.size (.tup [.int (i : Nat), .str ⟨#[c]⟩])) h'' s.heap.objs.size (.tup [.int (i : Nat), .str ⟨#[c]⟩]) :=
      ⟨by show 2 ≤ sizeLine; decide, [.int i tk, .str ⟨#[c]⟩ u], .cons ⟨_, rfl⟩ (.cons ⟨_, rfl⟩ .nil), ⟨_, hT2, rfl, _, rfl⟩⟩
    have I1 : Inv X pins σ (upd H s.heap.objs.size (.tup [.int (i : Nat), .str ⟨#[c]⟩])) { s with heap := h'', toks := tk + 1 } :=
      I.turnedNew (ch := [e, it]) (fun b ob hb q => (sb.2 b (fun z => hb (by simp [z]))).trans (hk b ob (fun z => hb (by simp [z])) (fun z => hb (by simp [z])) q)) hf (Nat.le_refl _) new
    refine ⟨.ref s.heap.objs.size, _, I1, rfl, ⟨_, c, rfl, I.hok.fresh (Nat.le_refl _), rfl, hcz⟩, ⟨⟨.str ⟨#[c]⟩ u, ?_⟩, ?_, hne⟩, fun b hb => ?_⟩
    · rw [show ((i + 1 : Nat) : Int) = (i : Int) + 1 by omega]; exact he'
    · obtain ⟨o, ho, r⟩ := hit'
      exact ⟨o, (sb.2 it (Ne.symm hne)).trans ho, r⟩
    · have hb' : b < s.heap.objs.size := by
        rcases (by simpa using hb : b = e ∨ b = it) with z | z
        · rw [z]; exact hel
        · rw [z]; exact hil
      rw [upd_ne (Nat.ne_of_lt hb')]
      exact (hf b hb).1
  done := by
    intro X hP hw hK hc i pins s σ H E I hf st hg
    subst hP hw hK
    obtain ⟨⟨old, he⟩, hit, hne⟩ := st
    obtain ⟨f0, f1, f2, f3, f4, f5⟩ := hf it (by simp)
    have D := Draws.text (prog := X.prog) (w := X.w) (A := X.A.in1) (by simpa using I.ok.hd hc) it z t
    obtain rfl : i = z.cps.size := hg
    exact wpAny_pyNext_enum_endD D he hit fun h' eb => ⟨rfl, I.turned (t' := s.toks) (fun b o hb q => eb b o hb q) f0 f1 f3 f4 f5⟩
  self := fun A i s Q E st h => let ⟨⟨_, he⟩, _⟩ := st; wpAny_pyIter_enum he h
def iEnuX (K : PySem.W.Frag) (te : TE) : TI := fun σ H R => te σ H fun v H1 => (∃ z, v = .str z ∧ R (ItsE z) H1) ∨ ∃ a xs, v = .ref a ∧ SqL K H1 a xs ∧ R (Ite K a) H1
theorem pi_enumX {te : TE} {p tpos : Pos} {elts : List Expr} {kk : Nat} (hg : Gl X "enumerate") (hm : X.mg "enumerate" = none) (ho : PE X o te) (s1 : notStar o = true) :
    PI X (.Tuple elts kk tpos) (.Call (.Name "enumerate" p) [o] [] pos) (iEnuX X.K te) := by
  refine ⟨fun pins s σ H R I h => ?_⟩
  refine Call_ (ld_blt I hg hm boot_enumerate (PyProof.Rows.callWith_type1 (one_arg ho I h (fun v s1 x H1 I1 r1 q => ?_) (star_of s1)) (star_of s1)))
  have two : ∀ b, b ∈ [s1.heap.objs.size + 1, s1.heap.objs.size] → FpOk X pins H1 b := fun b hb => by
    have hle : s1.heap.objs.size ≤ b := by
      rcases (by simpa using hb : b = s1.heap.objs.size + 1 ∨ b = s1.heap.objs.size) with z | z
      · rw [z]; exact Nat.le_add_right _ _
      · rw [z]; exact Nat.le_refl _
    exact I1.fpOk hle (I1.hok.fresh hle)
  rcases q with ⟨z, rfl, q⟩ | ⟨a, xs, rfl, hq, q⟩
  · obtain ⟨t, rfl⟩ := r1
    refine call_enumerate_str fun h' he hit hsz hk => wpAny_pyIter_enum he ?_
    have I2 : Inv X pins σ H1 { s1 with heap := h' } := I1.kept (t' := s1.toks) hk
    exact ⟨s1.heap.objs.size + 1, [s1.heap.objs.size + 1, s1.heap.objs.size], _, _, H1, rfl, I2, turn_enumS z t (s1.heap.objs.size + 1) s1.heap.objs.size, ⟨⟨.none, he⟩, hit, Nat.succ_ne_self _⟩, two, q⟩
  · cases r1
    obtain ⟨its, rv, p', hz⟩ := I1.list hq
    refine call_enumerate_list p'.isList fun h' he hit hsz hk => wpAny_pyIter_enum he ?_
    have I2 : Inv X pins σ H1 { s1 with heap := h' } := I1.kept (t' := s1.toks) hk
    exact ⟨s1.heap.objs.size + 1, [s1.heap.objs.size + 1, s1.heap.objs.size], _, _, H1, rfl, I2, turn_enum a (s1.heap.objs.size + 1) s1.heap.objs.size, ⟨⟨.none, he⟩, hit, Nat.succ_ne_self _⟩, two, q⟩
theorem enumF_get : ∀ {xs : List PV} {k : Int} {i : Nat} {x : PV}, xs[i]? = some x → (enumF k xs)[i]? = some (.tup [.int (k + i), x])
  | [], _, _, _, h => by simp at h
  | y :: ys, k, 0, x, h => by
    cases h
    show some (PV.tup [.int k, y]) = some (.tup [.int (k + ((0 : Nat) : Int)), y])
    rw [show k + ((0 : Nat) : Int) = k by omega]
  | y :: ys, k, i + 1, x, h => by
    have := enumF_get (k := k + 1) (i := i) (xs := ys) (x := x) (by simpa using h)
    show (enumF (k + 1) ys)[i]? = _
    rw [this, show k + 1 + (i : Int) = k + ((i + 1 : Nat) : Int) by omega]
theorem enumF_len : ∀ {xs : List PV} {k : Int}, (enumF k xs).length = xs.length
  | [], _ => rfl
  | x :: xs, k => by
    show (enumF (k + 1) xs).length + 1 = _
    rw [enumF_len]
    rfl
theorem walks_enumS {K : PySem.W.Frag} {F : Fz} {z : Str} : Walks K F (ItsE z) (enumF 0 (z.cps.toList.map fun c => PV.str ⟨#[c]⟩)) := by
  have hl : (enumF 0 (z.cps.toList.map fun c => PV.str ⟨#[c]⟩)).length = z.cps.size := by rw [enumF_len, List.length_map, Array.length_toList]
  refine ⟨fun _ => True, _, by rw [hl]; exact walk_enumS, fun _ _ _ _ _ => trivial, fun i F' R H x H' h le inv y => ?_⟩
  obtain ⟨T, c, rfl, hT, rfl, hc⟩ := y
  obtain ⟨F2, l2, i2⟩ := inv.newT (xs := [.int (i : Nat), .str ⟨#[c]⟩]) hT (show RepL F' _ [.int (i : Nat), .str ⟨#[c]⟩] from ⟨_, _, rfl, rep_int.mpr rfl, _, _, rfl, rep_str.mpr rfl, rfl⟩)
  refine ⟨F2, _, ?_, l2, i2⟩
  rw [enumF_get (x := .str ⟨#[c]⟩) (by rw [List.getElem?_map, Array.getElem?_toList, hc]; rfl)]
  rw [show (0 : Int) + (i : Int) = (i : Nat) by omega]
theorem walks_enumL {K : PySem.W.Frag} {F : Fz} {a : Addr} {xs : List PV} {vs : List V} (l : RepL F xs vs) (hq : ∀ F' R H, F.le F' → INV K F' R H → SqL K H a vs) : Walks K F (Ite K a) (enumF 0 xs) := by
  refine ⟨fun H => SqL K H a vs, _, by rw [enumF_len, ← l.length]; exact walk_enum, hq, fun i F' R H x H' h le inv y => ?_⟩
  obtain ⟨T, u, v, rfl, hT, rfl, hu, hv⟩ := y
  cases hu
  rw [enumF_len] at h
  have hv : vs[i]? = some v := hv
  obtain ⟨w, hw, r⟩ := l.get (i := i) (x := xs[i]) (by simp [h])
  rw [hv] at hw; cases hw
  obtain ⟨F2, l2, i2⟩ := inv.newT (xs := [.int (i : Nat), xs[i]]) hT (show RepL F' _ [.int (i : Nat), v] from ⟨_, _, rfl, rep_int.mpr rfl, _, _, rfl, Rep.mono le _ _ r, rfl⟩)
  refine ⟨F2, _, ?_, l2, i2⟩
  rw [enumF_get (x := xs[i]) (by simp [h])]
  rw [show (0 : Int) + (i : Int) = (i : Nat) by omega]
theorem tI_enu {σ : L2.St} {H : Hp} {e : E} {R : It → Hp → Prop} (h : tI B (.enu e) σ H R) : iEnuX B.K (tE B e) σ H R := by
  obtain ⟨F, env, T, l0, w, i, h⟩ := h
  refine ⟨F, env, T, l0, w, i, ?_⟩
  rw [evI] at h
  cases ha : evA B.P B.cf B.hx false e env with
  | stuck => rw [ha] at h; exact h
  | exc c x env' => rw [ha] at h; exact h
  | ok a env1 =>
    rw [ha] at h
    intro F1 H1 v l1 k1 w1 i1 ok1
    dsimp only [Out.bind] at h
    cases hs : settle a env1 with
    | stuck => rw [hs] at h; exact h.elim
    | exc c x e' => cases a <;> simp only [settle] at hs <;> (try (cases hs; done)) ; split at hs <;> cases hs
    | ok x env2 =>
      rw [hs] at h
      dsimp only at h
      obtain ⟨F2, l2, r2, i2, w2, k2⟩ := settle_of i1 w1 ok1 hs
      cases x <;> simp only [itemsE, itemsI, items] at h <;> try exact h.elim
      case str z =>
        obtain rfl := rep_str.mp r2
        exact .inl ⟨z, rfl, h F2 H1 _ (l1.trans l2) (k1.trans k2) w2 i2 walks_enumS⟩
      case lst xs =>
        obtain ⟨b, vs, rfl, h1, l⟩ := (by simpa only [Rep] using r2 : ∃ a vs, v = .ref a ∧ F2 a (.lst vs) ∧ RepL F2 xs vs)
        have hq : ∀ F' R H, F2.le F' → INV B.K F' R H → SqL B.K H b vs := fun F' R H le i => by
          obtain ⟨cs, f⟩ := fr_of i
          exact .of (sqL_of f (le _ _ h1))
        exact .inr ⟨b, vs, rfl, hq F2 _ H1 (.refl _) i2, h F2 H1 _ (l1.trans l2) (k1.trans k2) w2 i2 (walks_enumL l hq)⟩
      case scr ns =>
        obtain ⟨b, ob, rfl, h1⟩ := (by simpa only [Rep] using r2 : ∃ a ob, v = .ref a ∧ F2 a (.frz ob (.lst (ns.map V.int))))
        have hq : ∀ F' R H, F2.le F' → INV B.K F' R H → SqL B.K H b (ns.map V.int) := fun F' R H le i => by
          obtain ⟨cs, f⟩ := fr_of i
          exact sqS_of f (le _ _ h1)
        exact .inr ⟨b, _, rfl, hq F2 _ H1 (.refl _) i2, h F2 H1 _ (l1.trans l2) (k1.trans k2) w2 i2 (walks_enumL (RepL.ints ns) hq)⟩
end
end MP
set_option Elab.async false
set_option linter.all false
set_option maxRecDepth 100000
set_option maxHeartbeats 1000000
/-! M10: expressions: the row's text does what the small text does. -/
namespace MP
open PySem L2 PySem.Spec PyProof.Rows
section
variable {X : Cx} {B : Bd}
theorem plain_of {P : Prog} {N : List Str} {sc : Scope} {env : PySem.Env} {pos : Pos} : ∀ {es : Es} {xs : List Expr}, okEs P N sc es xs = true → (backTo pos (starEach xs env)).any (·.1) = false
  | .nil, [], _ => rfl
  | .nil, _ :: _, h => by simp [okEs] at h
  | .cons _ _, [], h => by simp [okEs] at h
  | .cons e es, x :: xs, h => by
    simp only [okEs, Bool.and_eq_true] at h
    rw [star_of h.1.1]
    show (false || (backTo pos (starEach xs env)).any (·.1)) = false
    rw [plain_of h.2]; rfl
theorem se_var {i : Nat} {x : Str} {pos : Pos} (h : (decide (X.N[i]? = some x) && visB X.env.scope x && dbg x) = true) : PE X (.Name x pos) (tE B (.var i)) := by
  simp only [Bool.and_eq_true, decide_eq_true_eq] at h
  obtain ⟨⟨h1, h2⟩, h3⟩ := h
  obtain ⟨d1, d2⟩ := dbg_of h3
  refine PE.weak (pe_var h1 (vis_of h2) d1 d2) fun σ H Q ⟨F, env, T, g, w, i0, h⟩ => ?_
  rw [evA] at h
  cases he : env[i]? with
  | none => rw [he] at h; exact h.elim
  | some o =>
    cases o with
    | none => rw [he] at h; exact h.elim
    | some s =>
      rw [he] at h
      dsimp only at h
      obtain ⟨v, hv⟩ := w.val i s he
      refine ⟨v, hv, ?_⟩
      by_cases hd : s.d = 0
      · rw [if_pos hd] at h
        have r := INV.pick (R := T) i0 he hv
        rw [hd] at r
        exact h F H v (.refl _) (.refl _) w (i0.add0 r.rep0).mid trivial
      · rw [if_neg hd] at h
        exact h F H v (.refl _) (.refl _) w i0 ⟨⟨s, he⟩, hv⟩
theorem se_glb (C : Cs X B) {g : Nat} {x : Str} {pos : Pos} (h : ((match B.P.glbs[g]? with | some (y, _) => decide (y = x) | none => false) && glB X.env.scope x && dbg x) = true) : PE X (.Name x pos) (tE B (.glb g)) := by
  simp only [Bool.and_eq_true] at h
  obtain ⟨⟨h1, h2⟩, h3⟩ := h
  cases hg : B.P.glbs[g]? with
  | none => rw [hg] at h1; cases h1
  | some p =>
    obtain ⟨y, v⟩ := p
    rw [hg] at h1
    obtain rfl := of_decide_eq_true h1
    obtain ⟨u, w, m, r, rp⟩ := C.glb g y v hg
    refine PE.weak (pe_glob (gl_of h2) m r (dbg_of h3).1) fun σ H Q ⟨F, env, T, gd, wf, i0, h⟩ => ?_
    rw [evA, hg] at h
    exact h F H w (.refl _) (.refl _) wf (i0.add0 (Rep.mono gd.le _ _ rp)).mid trivial
theorem se_cst {c : PV} {k : Const} {j : Nat} {pos : Pos} (h : cstB c k = true) : PE X (.Constant k j pos) (tE B (.cst c)) := by
  have fin : ∀ {v : V} {σ : L2.St} {H : Hp} {Q : VK}, (∀ F, Rep F c v) → tE B (.cst c) σ H Q → tC v σ H Q := by
    rintro v σ H Q r ⟨F, env, T, gd, wf, i0, h⟩
    rw [evA] at h
    exact h F H v (.refl _) (.refl _) wf (i0.add0 (r F)).mid trivial
  cases c <;> cases k <;> simp only [cstB] at h <;> try (cases h; done)
  · exact PE.weak pe_non fun σ H Q => fin fun F => rep_non.mpr rfl
  · obtain rfl := eq_of_beq h
    exact PE.weak pe_bl fun σ H Q => fin fun F => rep_bl.mpr rfl
  · obtain rfl := eq_of_beq h
    exact PE.weak pe_int fun σ H Q => fin fun F => rep_int.mpr rfl
  · obtain rfl := of_decide_eq_true h
    exact PE.weak pe_str fun σ H Q => fin fun F => rep_str.mpr rfl

/-! ### operations -/
theorem okEs2 {P : Prog} {N : List Str} {sc : Scope} {es : Es} {l r : Expr} (h : okEs P N sc es [l, r] = true) : ∃ a b, es = .cons a (.cons b .nil) ∧ okE P N sc a l = true ∧ okE P N sc b r = true := by
  match es with
  | .nil => simp [okEs] at h
  | .cons a .nil => simp [okEs] at h
  | .cons a (.cons b .nil) =>
    simp only [okEs, Bool.and_eq_true] at h
    exact ⟨a, b, rfl, h.1.2, h.2.1.2⟩
  | .cons a (.cons b (.cons c d)) => simp [okEs] at h
theorem okEs1 {P : Prog} {N : List Str} {sc : Scope} {es : Es} {l : Expr} (h : okEs P N sc es [l] = true) : ∃ a, es = .cons a .nil ∧ okE P N sc a l = true ∧ notStar l = true := by
  match es with
  | .nil => simp [okEs] at h
  | .cons a .nil =>
    simp only [okEs, Bool.and_eq_true] at h
    exact ⟨a, rfl, h.1.2, h.1.1⟩
  | .cons a (.cons b c) => simp [okEs] at h
theorem bval_sem {p : Prim} {g : Str} {v : Value} (hp : bval p = some (g, v)) (hc : needsCalm p = true → X.calm = true) : CallR X v (rSem X.K p) ∧ g ∈ bnames ∧ bootBuiltins g = some v ∧ (g ≠ "__name__") ∧ (g == ("__debug__" : Str)) = false ∧ ((∃ id, v = .builtin id) ∨ ∃ T, v = .type T) := by
  cases p <;> simp only [bval, Option.some.injEq, Prod.mk.injEq] at hp <;> try (cases hp; done)
  all_goals obtain ⟨rfl, rfl⟩ := hp
  · exact ⟨len_sem, by decide, by decide +kernel, by decide, by decide, .inl ⟨_, rfl⟩⟩
  · exact ⟨toInt_sem, by decide, by decide +kernel, by decide, by decide, .inr ⟨_, rfl⟩⟩
  · exact ⟨abs_sem, by decide, by decide +kernel, by decide, by decide, .inl ⟨_, rfl⟩⟩
  · exact ⟨toTup_sem, by decide, by decide +kernel, by decide, by decide, .inr ⟨_, rfl⟩⟩
  · exact ⟨toLst_sem, by decide, by decide +kernel, by decide, by decide, .inr ⟨_, rfl⟩⟩
  · exact ⟨sorted_sem, by decide, by decide +kernel, by decide, by decide, .inl ⟨_, rfl⟩⟩
  · exact ⟨min_sem (hc rfl), by decide, by decide +kernel, by decide, by decide, .inl ⟨_, rfl⟩⟩
  · exact ⟨max_sem (hc rfl), by decide, by decide +kernel, by decide, by decide, .inl ⟨_, rfl⟩⟩
/-! ### slices -/
theorem sIx_eq (n d : Nat) (x : Option Int) : HT.sIx n d x = sIx n d x := by cases x <;> rfl
theorem slc_sem : SlR X (rSlc X.K) := by
  intro pins s σ H x v vl vu lo hi sl Q I rx hsl h1 h2 h
  obtain ⟨F, cs, y, r, f, rd, hc, q⟩ := h
  cases y <;> simp only [cutP] at hc <;> try (cases hc; done)
  · split at hc <;> cases hc
    rename_i z hz
    obtain rfl := rdb_str rd
    exact sl_str pins s σ H _ v vl vu lo hi sl Q I rx hsl h1 h2 ⟨z, rfl, Nat.le_trans hz (by decide), q _ (rep_str.mpr rfl)⟩
  · cases hc
    rename_i xs
    obtain ⟨a, vs, rfl, hp, l⟩ := rd
    refine sl_list pins s σ H _ v vl vu lo hi sl Q I rx hsl h1 h2 ⟨a, vs, rfl, .of hp, fun p hp => q p _ hp ?_⟩
    unfold cutV cutL
    rw [sIx_eq, sIx_eq, l.length]
    exact (l.drop _).take _

/-! ### three comparisons -/
def tChain3 (r r' r'' : R2) (ta tb tc td : TE) : TE := fun σ H Q => ta σ H fun x H1 => tb σ H1 fun y H2 => r x y H2 fun z H3 => ∃ k, z = .bl k ∧ (if k = true then tc σ H3 fun e H4 => r' y e H4 fun z H5 => ∃ k, z = .bl k ∧
  (if k = true then td σ H5 fun g H6 => r'' e g H6 Q else Q (.bl false) H5) else Q (.bl false) H3)
theorem pe_chain3 {a b c d : Expr} {ta tb tc td : TE} {pos : Pos} {op op' op'' : CmpOp} {r r' r'' : R2} (ho : OpR X (compareOp op) r) (ho' : OpR X (compareOp op') r') (ho'' : OpR X (compareOp op'') r'') (ha : PE X a ta) (hb : PE X b tb) (hc : PE X c tc) (hd : PE X d td)
    (hm : lastMarks [op, op', op''] [b, c, d] = false) : PE X (.Compare a [op, op', op''] [b, c, d] pos) (tChain3 r r' r'' ta tb tc td) := by
  refine ⟨fun pins s σ H Q I h => ?_⟩
  refine Compare_chain (thn (ha.run pins s σ H _ I h) fun v s1 ⟨x, H1, I1, r1, q1⟩ => ?_) hm
  refine chain_link (thn (hb.run pins s1 σ H1 _ I1 q1) fun u s2 ⟨y, H2, I2, r2, q2⟩ => ?_)
  refine thn (ho pins s2 σ H2 x y v u _ I2 r1 r2 q2) fun d s3 ⟨z, H3, I3, r3, k, e, q3⟩ => ?_
  subst e
  cases r3
  refine wpAny_truthy_bool ?_
  cases k with
  | false => exact ite_ff ⟨V.bl false, H3, I3, rfl, q3⟩
  | true =>
    refine ite_tt ?_
    refine chain_link (thn (hc.run pins s3 σ H3 _ I3 q3) fun u2 s4 ⟨y2, H4, I4, r4, q4⟩ => ?_)
    refine thn (ho' pins s4 σ H4 y y2 u u2 _ I4 r2 r4 q4) fun d2 s5 ⟨z2, H5, I5, r5, k2, e2, q5⟩ => ?_
    subst e2
    cases r5
    refine wpAny_truthy_bool ?_
    cases k2 with
    | false => exact ite_ff ⟨V.bl false, H5, I5, rfl, q5⟩
    | true =>
      refine ite_tt ?_
      refine chain_last (thn (hd.run pins s5 σ H5 _ I5 q5) fun w s6 ⟨y3, H6, I6, r6, q6⟩ => ?_)
      exact ho'' pins s6 σ H6 y2 y3 u2 w Q I6 r4 r6 q6
theorem pt_chain3 {a b c d : Expr} {ta tb tc td : TE} {pos : Pos} {op op' op'' : CmpOp} {r r' r'' : R2} (ho : OpR X (compareOp op) r) (ho' : OpR X (compareOp op') r') (ho'' : OpR X (compareOp op'') r'') (ha : PE X a ta) (hb : PE X b tb) (hc : PE X c tc) (hd : PE X d td)
    (hm : lastMarks [op, op', op''] [b, c, d] = false) : PT X (.Compare a [op, op', op''] [b, c, d] pos) (tTest (tChain3 r r' r'' ta tb tc td)) := by
  refine ⟨fun pins s σ H Q I h => ?_⟩
  refine isTrue_chain (thn (ha.run pins s σ H _ I h) fun v s1 ⟨x, H1, I1, r1, q1⟩ => ?_) hm
  refine test_link (thn (hb.run pins s1 σ H1 _ I1 q1) fun u s2 ⟨y, H2, I2, r2, q2⟩ => ?_)
  refine thn (ho pins s2 σ H2 x y v u _ I2 r1 r2 q2) fun d s3 ⟨z, H3, I3, r3, k, e, q3⟩ => ?_
  subst e
  cases r3
  refine wpAny_truthy_bool ?_
  cases k with
  | false =>
    obtain ⟨k, e, q3⟩ := (show ∃ k, V.bl false = V.bl k ∧ Q k H3 from q3)
    cases e
    exact ite_ff ⟨H3, I3, q3⟩
  | true =>
    refine ite_tt ?_
    refine test_link (thn (hc.run pins s3 σ H3 _ I3 q3) fun u2 s4 ⟨y2, H4, I4, r4, q4⟩ => ?_)
    refine thn (ho' pins s4 σ H4 y y2 u u2 _ I4 r2 r4 q4) fun d2 s5 ⟨z2, H5, I5, r5, k2, e2, q5⟩ => ?_
    subst e2
    cases r5
    refine wpAny_truthy_bool ?_
    cases k2 with
    | false =>
      obtain ⟨k, e, q5⟩ := (show ∃ k, V.bl false = V.bl k ∧ Q k H5 from q5)
      cases e
      exact ite_ff ⟨H5, I5, q5⟩
    | true =>
      refine ite_tt ?_
      refine test_last (thn (hd.run pins s5 σ H5 _ I5 q5) fun w s6 ⟨y3, H6, I6, r6, q6⟩ => ?_)
      refine thn (ho'' pins s6 σ H6 y2 y3 u2 w _ I6 r4 r6 q6) fun d3 s7 ⟨z3, H7, I7, r7, k3, e3, q7⟩ => ?_
      subst e3
      cases r7
      exact wpAny_truthy_bool ⟨H7, I7, q7⟩
theorem pe_callS0 {CX : CXT} {k : Nat} {f : Addr} {fd : FuncData} {ps : List Str} {sp : Sp} {E : L2.St → XK} {x : Str} {p pos : Pos} (F : FnOk X.prog X.w X.K X.mg X.base CX k f fd ps sp) (hr : Room k X.A) (hg : Gl X x) (hm : X.mg x = some (.ref f))
    (hk : PySem.W.keepIn X.K (.ref f) = true) (hb : Binds X.K fd ps []) (hx : ∀ σ, PassesAt CX X σ (E σ)) (hd : (x == ("__debug__" : Str)) = false) : PE X (.Call (.Name x p) [] [] pos) fun σ H Q => sp [] H Q (E σ) :=
  ⟨fun pins s σ H Q I h => wpAny_Call_Name_kw (ld_glob I hg hm (PySem.W.callWith_K0 (Inv.kIn I) hk (run_fnS F hr hb (hx σ) I .nil h)) hd)⟩
theorem pe_never {e : Expr} {t : TE} (h : ∀ σ H Q, ¬ t σ H Q) : PE X e t := ⟨fun pins s σ H Q I q => (h σ H Q q).elim⟩
/-- an operation whose operands' texts are at hand -/
theorem se_prim (C : Cs X B) {p : Prim} {es : Es} {e : Expr} {xs : List Expr} (hp : primArgs X.env.scope p e = some xs) (hok : okEs B.P X.N X.env.scope es xs = true) (ihE : ∀ a x, es = .cons a .nil → xs = [x] → PE X x (tE B a))
    (ih2 : ∀ a b x y, es = .cons a (.cons b .nil) → xs = [x, y] → PE X x (tE B a) ∧ PE X y (tE B b)) (ihA : PA X xs (SAs B es)) : PE X e (tE B (.prim p es)) := by
  have two : ∀ {l r : Expr}, xs = [l, r] → ∃ a b, es = .cons a (.cons b .nil) ∧ PE X l (tE B a) ∧ PE X r (tE B b) := by
    rintro l r rfl
    obtain ⟨a, b, rfl, _, _⟩ := okEs2 hok
    obtain ⟨h1, h2⟩ := ih2 a b l r rfl rfl
    exact ⟨a, b, rfl, h1, h2⟩
  have one : ∀ {l : Expr}, xs = [l] → ∃ a, es = .cons a .nil ∧ PE X l (tE B a) ∧ notStar l = true := by
    rintro l rfl
    obtain ⟨a, rfl, _, hs⟩ := okEs1 hok
    exact ⟨a, rfl, ihE a l rfl rfl, hs⟩
  have call : ∀ {f : Str} {x : Expr} {ys : List Expr} {pf pos : Pos} {g : Str} {v : Value}, e = .Call (.Name f pf) (x :: ys) [] pos → bval p = some (g, v) → f = g → glB X.env.scope f = true → xs = x :: ys → PE X e (tE B (.prim p es)) := by
    rintro f x ys pf pos g v rfl hb rfl hg rfl
    by_cases hot : B.hx.isSome = true ∧ needsCalm p = true
    · exact pe_never fun σ H Q h => prim_hot hot.1 hot.2 h
    · have hc : needsCalm p = true → X.calm = true := fun hn => C.cold (by
        cases hh : B.hx with
        | none => rfl
        | some z => exact absurd ⟨by rw [hh]; rfl, hn⟩ hot)
      obtain ⟨h1, h2, h3, h4, h5, h6⟩ := bval_sem hb hc
      have hm := C.blt f h2
      have wk : ∀ σ H Q, tE B (.prim p es) σ H Q → tCB (rSem X.K p) (SAs B es) σ H Q := fun σ H Q h => by
        rw [← C.K]; exact prim_as (by cases p <;> first | rfl | cases hb) h
      match es, hok with
      | .cons a es', hok =>
        simp only [okEs, Bool.and_eq_true] at hok
        rcases h6 with ⟨id, rfl⟩ | ⟨T, rfl⟩
        · exact PE.weak (pe_callB h1 (gl_of hg) hm h3 ihA h4 h5 (star_of hok.1.1) (plain_of hok.2)) wk
        · exact PE.weak (pe_callTy h1 (gl_of hg) hm h3 ihA h4 h5 (star_of hok.1.1) (plain_of hok.2)) wk
  have bad : bval p = none → ∀ {fe args kws}, bltArgs X.env.scope p fe args kws = some xs → False := by
    intro hb fe args kws h
    unfold bltArgs at h
    split at h
    · rw [hb] at h; cases h
    · cases h
  cases p with
  | op o =>
    cases e <;> simp only [primArgs] at hp <;> try (cases hp; done)
    · rename_i l op r pos
      split at hp
      · rename_i ho
        cases hp; subst ho
        obtain ⟨a, b, rfl, h1, h2⟩ := two rfl
        exact PE.weak (pe_op (op_sem o) h1 h2) fun σ H Q h => by rw [← C.K]; exact prim2 rfl h
      · cases hp
    · exact (bad rfl hp).elim
  | neg =>
    cases e <;> simp only [primArgs] at hp <;> try (cases hp; done)
    · rename_i op l pos
      cases op <;> simp only [primArgs] at hp <;> try (cases hp; done)
      cases hp
      obtain ⟨a, rfl, h1, _⟩ := one rfl
      exact PE.weak (pe_un neg_sem h1) fun σ H Q h => by rw [← C.K]; exact prim1 rfl h
    · exact (bad rfl hp).elim
  | cmp c =>
    cases e <;> simp only [primArgs] at hp <;> try (cases hp; done)
    · rename_i l ops rs pos
      match ops, rs, hp with
      | [op], [r], hp =>
        simp only [primArgs] at hp
        split at hp
        · rename_i ho
          cases hp
          obtain ⟨rfl, hb⟩ := ho
          obtain ⟨a, b, rfl, h1, h2⟩ := two rfl
          exact PE.weak (pe_cmpR (cmp_sem C.un c) h1 h2 hb) fun σ H Q h => by rw [← C.K]; exact prim2 rfl h
        · cases hp
    · exact (bad rfl hp).elim
  | ix =>
    cases e <;> simp only [primArgs] at hp <;> try (cases hp; done)
    · exact (bad rfl hp).elim
    · rename_i l r pos
      split at hp
      · rename_i hx
        cases hp
        obtain ⟨a, b, rfl, h1, h2⟩ := two rfl
        exact PE.weak (pe_ix ix_sem h1 h2 (plainIx_of hx)) fun σ H Q h => by rw [← C.K]; exact prim2 rfl h
      · cases hp
  | tup =>
    cases e <;> simp only [primArgs] at hp <;> try (cases hp; done)
    · exact (bad rfl hp).elim
    · cases hp
      refine PE.weak (pe_tup ihA) fun σ H Q h => (disp_as rfl h).mono fun vs H1 ⟨F, pvs, r, rl, hp, q⟩ => ?_
      simp only [prim] at hp
      split at hp <;> cases hp
      rename_i hz
      exact ⟨by rw [rl.length]; exact Nat.le_trans hz (by decide), fun p hp => q.1 p vs hp rl⟩
  | lst =>
    cases e <;> simp only [primArgs] at hp <;> try (cases hp; done)
    · exact (bad rfl hp).elim
    · cases hp
      refine PE.weak (pe_lst ihA) fun σ H Q h => (disp_as rfl h).mono fun vs H1 ⟨F, pvs, r, rl, hp, q⟩ => ?_
      simp only [prim] at hp
      split at hp <;> cases hp
      rename_i hz
      exact ⟨by rw [rl.length]; exact Nat.le_trans hz (by decide), fun p hp => q p vs hp rl⟩
  | isi t =>
    cases e <;> simp only [primArgs] at hp <;> try (cases hp; done)
    rename_i fe args kws pos
    unfold isiArgs at hp
    split at hp
    · rename_i f pf x ty pty
      split at hp
      · rename_i hf
        cases hp
        obtain ⟨rfl, rfl, hg, hg2⟩ := hf
        obtain ⟨a, rfl, h1, hs⟩ := one rfl
        have hb : bootBuiltins (tyStr t) = some (.type (tyName t)) := by cases t <;> decide +kernel
        have hm2 : X.mg (tyStr t) = none := C.blt _ (by cases t <;> decide)
        have pt : PE X (.Name (tyStr t) pty) (tC (.ty (tyName t))) := pe_bltn (gl_of hg2) hm2 hb rfl (by cases t <;> decide) (by cases t <;> decide)
        refine PE.weak (pe_callB (isi_sem t) (gl_of hg) (C.blt _ (by decide)) PyProof.Rows.boot_isinstance (pa_cons h1 (pa_cons pt pa_nil) (star_of hs)) (by decide) (by decide) (star_of hs) rfl) fun σ H Q h => ?_
        exact (prim1 rfl h).mono fun v H1 h => ⟨v, rfl, by rw [← C.K]; exact h⟩
      · cases hp
    · cases hp
  | _ =>
    cases e <;> simp only [primArgs] at hp <;> try (cases hp; done)
    rename_i fe args kws pos
    unfold bltArgs at hp
    split at hp
    · simp only [bval] at hp
      first
        | (cases hp; done)
        | (split at hp
           · rename_i hf
             cases hp
             exact call rfl rfl hf.1 hf.2 rfl
           · cases hp)
    · cases hp
end
end MP

/-! ### a comprehension over a range within an except suite -/
namespace MP
open PySem L2 PySem.Spec PyProof.Rows
/-- its block: the handled error stays pinned -/
abbrev Cx.blkH (X : Cx) (p : Addr × Obj) (s : Shared) (H : Hp) (scope : Scope) (cenv : PySem.Env) (fp : List Addr) : Cx :=
  { X with s_0 := s, H_0 := H, env := cenv, outer := X.stack, ex := fp, fn := fun x => scope.names.lookup x == some .cell, pn := [p], xe := fun _ _ => False }
abbrev ctxOf (X : Cx) (scope : Scope) (s : Shared) : PySem.Env := compEnvC scope (cellsFrom (s.heap.objs.size + 1) scope.names (cloFrom X.env.cells scope.names [])) s.heap.objs.size X.env
section
variable {X : Cx} {p : Addr × Obj} {pins : List (Addr × Obj)} {σ : L2.St} {H : Hp} {s : Shared} {scope : Scope} {own : List (Str × Nat)} {fp : List Addr}
theorem blkH_start (hp : p ∈ X.pn) (I : Inv X pins σ H s) (ok : BlkOk X.N X.env.scope scope own) (hN : X.N.Nodup) (hfp : ∀ b ∈ fp, FpOk X pins H b ∧ b < s.heap.objs.size) :
    Inv (Cx.blkH X p s H scope (ctxOf X scope s) fp) [] (wipe σ (own.map (·.2))) H { s with heap := pushCells (s.heap.push { cls := .type "dict", data := .dict #[] }) scope.names } := by
  have J := block_start I ok hN hfp
  have o := J.ok
  obtain ⟨g, n, l, f, c⟩ := I.pin p (List.mem_append_left _ hp)
  have lt := Heap.lt_size g
  refine ⟨⟨o.mod, o.kind, o.glob, o.blt, o.above, o.inj, o.has, o.cab, o.hd, o.frames, o.stk, o.exf, o.bs, o.bsz, o.noex, o.exfs, o.funs, o.frf⟩, J.os, J.bare, J.base, J.loc, J.cell, J.free, J.freeC, fun q hq => ?_, J.hok, J.len⟩
  have hq : q ∈ [p] ++ [] := hq
  obtain rfl : q = p := by simpa using hq
  refine ⟨pushCells_keeps _ _ _ _ (Heap.get?_push_of_some _ g), n, fun z => ?_, fun z => ?_, c⟩
  · have e : q.1 = s.heap.objs.size := z
    exact absurd lt (by rw [e]; exact Nat.lt_irrefl _)
  · exact (List.mem_cons.mp (I.stkSub q.1 z)).elim l f
/-- one turn -/
theorem lcH_turn {elt tg : Expr} {ifs : List Expr} {R : Result → Shared → Prop} {E : Value → Shared → Prop} {g : TG} {tt : TT} {te : TE} {J : It} {it D : Addr} {tn : Nat → Heap → Prop} {ow : List Nat} {n i : Nat} {s5 : Shared} {H5 : Hp} {W : Nat → Nat → Hp → Prop}
    (hc : L2H.HotC X) (hxe : X.xe = fun _ _ => False) (hpn : ∀ b ∈ fp, ∀ q ∈ X.pn, q.1 ≠ b) (hex : X.ex = fp) (T : L2H.TurnH X.prog X.w X.K tg J fp it tn)
    (pg : PG X tg g) (pt : PTs X ifs tt) (pe : PE X elt te)
    (I5 : Inv X [] (wipe σ ow) H5 s5) (st5 : tn i s5.heap) (n5 : ∀ b ∈ fp, H5 b = none) (go : J.go i H5) {Nx : Hp → Prop} (hNx : ∀ H', Nx H' → ∃ m', m' < n ∧ W (i + 1) m' H')
    (step : ∀ x H', J.yld i H5 x H' → g x (wipe σ ow) H' fun σ2 H2 => wipe σ2 ow = wipe σ ow ∧ tt σ2 H2 fun b H3 => if b = true then te σ2 H3 fun y H4 => ∃ acc, H4 D = some (.lst acc) ∧ acc.length < sizeLine ∧ Nx (upd H4 D (.lst (acc ++ [y]))) else Nx H3) :
    wpAny (model X.prog X.w) X.A (pyNext (.ref it)) (fun r s₁ => match r with
      | none => R (.ok .next) s₁
      | some v => wpAny (model X.prog X.w) X.A (letOwnedTupleGo tg (.ref it) v) (fun _ s₁' => wpAny (model X.prog X.w) X.A (assign tg X.env v) (fun _ s₂ =>
          wpAny (model X.prog X.w) X.A (forIn ifs true fun c r => if r = true then do let ok ← isTrue c X.env (eval c X.env); pure (ForInStep.yield ok) else pure (ForInStep.yield r)) (fun ok s₃ =>
            if ok = true then wpAny (model X.prog X.w) X.A (eval elt X.env) (fun x s₄ =>
              wpAny (model X.prog X.w) X.A (call (.builtin "list.append") [.ref D, x]) (fun _ s₅ => ∃ m, m < n ∧ ∃ i H', Inv X [] (wipe σ ow) H' s₅ ∧ tn i s₅.heap ∧ (∀ b ∈ fp, H' b = none) ∧ W i m H') E s₄) E s₃
            else ∃ m, m < n ∧ ∃ i H', Inv X [] (wipe σ ow) H' s₃ ∧ tn i s₃.heap ∧ (∀ b ∈ fp, H' b = none) ∧ W i m H') E s₂) E s₁') E s₁) E s5 := by
  have hfp : ∀ {σ' : L2.St} {H' : Hp} {s' : Shared}, Inv X [] σ' H' s' → (∀ b ∈ fp, H' b = none) → ∀ b ∈ fp, FpOk X [] H' b := fun {σ' H' s'} I' hn b hb => by
    have hx : b ∈ X.ex := hex ▸ hb
    refine ⟨hn b hb, (I'.ok.exf b hx).1, I'.ok.exfs b hx, .inl hx, fun x c e => (I'.ok.exf b hx).2 x c e, fun q hq => hpn b hb q (by simpa using hq)⟩
  refine wpAny_mono (T.item X rfl rfl rfl hc i [] s5 _ H5 E I5 (hfp I5 n5) st5 go) (fun r s6 ⟨u, hr, h6⟩ => ?_) (fun _ _ z => z)
  subst hr
  refine wpAny_mono h6 (fun _ s7 ⟨x, H7, I7, r7, y7, st7, n7⟩ => ?_) (fun _ _ z => z)
  have I7p := I7.pinned (hfp I7 n7) (T.obj _ _ st7)
  -- behind the element or without it
  have next : ∀ {s' : Shared} {σ8 : L2.St} {H' : Hp}, wipe σ8 ow = wipe σ ow → Inv X ([] ++ pinsAt fp s7.heap) σ8 H' s' → Nx H' → ∃ m, m < n ∧ ∃ i H', Inv X [] (wipe σ ow) H' s' ∧ tn i s'.heap ∧ (∀ b ∈ fp, H' b = none) ∧ W i m H' := fun {s' σ8 H'} hw I' nx => by
    obtain ⟨m', hm, w'⟩ := hNx H' nx
    have at_ : ∀ b ∈ fp, ∀ o, s7.heap.get? b = some o → s'.heap.get? b = some o ∧ H' b = none := fun b hb o e => by
      have z := I'.pin (b, o) (List.mem_append_right _ (List.mem_append_right _ (mem_pinsAt hb e)))
      exact ⟨z.1, z.2.1⟩
    refine ⟨m', hm, i + 1, H', I'.unpinned.weak ?_ (fun j v e => ?_), T.keep _ _ _ st7 fun b hb o e => (at_ b hb o e).1, fun b hb => ?_, w'⟩
    · rw [← hw, wipe_length]
    · rw [← hw] at e
      exact (wipe_some e).1
    · obtain ⟨o, e, _⟩ := T.obj _ _ st7 b hb
      exact (at_ b hb o e).2
  refine wpAny_mono ((pg.run _ s7 _ H7 x u _ I7p r7 (step x H7 y7))) (fun _ s8 ⟨σ8, H8, I8, hw8, q8⟩ => ?_) (fun _ _ z => by rw [hxe] at z; exact False.elim z)
  refine wpAny_mono (pt.run _ s8 σ8 H8 _ I8 q8) (fun b s9 ⟨H9, I9, q9⟩ => ?_) (fun _ _ z => by rw [hxe] at z; exact False.elim z)
  cases b with
  | false => exact next hw8 I9 q9
  | true =>
    refine wpAny_mono (pe.run _ s9 σ8 H9 _ I9 q9) (fun z s10 ⟨yv, H10, I10, r10, acc, hD10, hz10, nx⟩ => ?_) (fun _ _ z => by rw [hxe] at z; exact False.elim z)
    exact app_ok I10 hD10 hz10 r10 fun s11 I11 => next hw8 I11 nx
theorem lcH_core {elt tg iter : Expr} {ifs : List Expr} {pos pos' : Pos} {wi : TI} {g : TG} {tt : TT} {te : TE} {Q : VK} {use : Option (Value → Sem Unit)} {Qf : Value → Shared → Prop} (hot : L2H.Hot1 X.A p) (hp : p ∈ X.pn) (hN : X.N.Nodup) (I : Inv X pins σ H s)
    (hi : L2H.PIH X tg iter wi) (ok : BlkOk X.N X.env.scope scope own)
    (hg : ∀ (s : Shared) (H : Hp) (C : Addr) (cl : List (Str × Addr)) (fp : List Addr), PG (Cx.blkH X p s H scope (compEnvC scope cl C X.env) fp) tg g)
    (ht : ∀ (s : Shared) (H : Hp) (C : Addr) (cl : List (Str × Addr)) (fp : List Addr), PTs (Cx.blkH X p s H scope (compEnvC scope cl C X.env) fp) ifs tt)
    (he : ∀ (s : Shared) (H : Hp) (C : Addr) (cl : List (Str × Addr)) (fp : List Addr), PE (Cx.blkH X p s H scope (compEnvC scope cl C X.env) fp) elt te) (hs : ∀ x, foldedSetIterable iter X.env x = pure x)
    (h : tLc wi g tt te (own.map (·.2)) σ H Q)
    (fin : ∀ D C s' m H', Inv X pins σ H' s' → Q (.ref D) H' → s'.heap.Ns C m → FpOk X pins H' C → compPost (model X.prog X.w) X.A X.xe use Qf (.ref D) C (.ok .next) s') :
    wpAny (model X.prog X.w) X.A (comprehension (.ListComp elt [⟨tg, iter, ifs, 0⟩] scope pos) scope X.env pos' (newList []) false (eval iter X.env) use) Qf X.xe s := by
  have hfree : ∀ y ∈ scope.names, y.2 = .free → ∃ c, X.env.cells.lookup y.1 = some c := fun y hy e => (ok.free y hy e).elim (fun k => I.ok.has _ (.inl k)) fun k => I.ok.has _ (.inr k)
  refine wpAny_comprehension_free (use := use) rfl hs (closure_ok hfree) ok.kind (fun y hy e => by rw [ok.uniq y hy, e]) (thn (hi.run pins s σ H _ I h) fun xv s1 hx => thn hx fun itv s2 h2 => ?_)
  obtain ⟨it, fp, tn, J, H2, rfl, I2, T, st2, f2, q⟩ := h2
  -- the new list
  refine wpAny_newObj_type (newEnv_comp ?_) (by show 0 ≤ sizeLine; decide)
  have kp : ∀ b o, s2.heap.get? b = some o → (s2.heap.push { cls := .type "list", data := .seq ([] : List Value).toArray }).get? b = some o := fun b o e => Heap.get?_push_of_some _ e
  have nD : H2 s2.heap.objs.size = none := I2.hok.fresh (Nat.le_refl _)
  have I3 : Inv X pins σ (upd H2 s2.heap.objs.size (.lst [])) { s2 with heap := s2.heap.push { cls := .type "list", data := .seq ([] : List Value).toArray } } :=
    I2.laid (t' := s2.toks) kp (Nat.le_refl _) ⟨Nat.zero_le _, [], 0, .nil, Heap.get?_push_size _ rfl⟩
  obtain ⟨W, ⟨m0, w0⟩, turn⟩ := q s2.heap.objs.size nD
  have lt2 : ∀ b ∈ fp, b < s2.heap.objs.size := fun b hb => by
    obtain ⟨o, e, _⟩ := T.obj _ _ st2 b hb
    exact Heap.lt_size e
  have st3 : tn 0 ({ s2 with heap := s2.heap.push { cls := .type "list", data := .seq ([] : List Value).toArray } } : Shared).heap := T.keep _ _ _ st2 fun b _ o e => kp b o e
  have f3 : ∀ b ∈ fp, FpOk X pins (upd H2 s2.heap.objs.size (.lst [])) b ∧ b < ({ s2 with heap := s2.heap.push { cls := .type "list", data := .seq ([] : List Value).toArray } } : Shared).heap.objs.size := fun b hb => by
    have l := lt2 b hb
    exact ⟨⟨by rw [upd_ne (Nat.ne_of_lt l)]; exact (f2 b hb).1, (f2 b hb).2⟩, by rw [show ({ s2 with heap := s2.heap.push { cls := .type "list", data := .seq ([] : List Value).toArray } } : Shared).heap = s2.heap.push { cls := .type "list", data := .seq ([] : List Value).toArray } from rfl, Heap.size_push]; exact Nat.lt_succ_of_lt l⟩
  generalize hs3 : ({ s2 with heap := s2.heap.push { cls := .type "list", data := .seq ([] : List Value).toArray } } : Shared) = s3 at I3 st3 f3
  show codeAny _ _ (.compStart (.ListComp elt [⟨tg, iter, ifs, 0⟩] scope pos) 0 (.ref it) (.ref s2.heap.objs.size) (ctxOf X scope s3)) (compPost (model X.prog X.w) X.A X.xe use Qf (.ref s2.heap.objs.size) s3.heap.objs.size) { s3 with heap := pushCells (s3.heap.push { cls := .type "dict", data := .dict #[] }) scope.names }
  generalize s2.heap.objs.size = D at nD I3 w0 turn f3 ⊢
  have I4 := blkH_start hp I3 ok hN f3
  have st4 : tn 0 ({ s3 with heap := pushCells (s3.heap.push { cls := .type "dict", data := .dict #[] }) scope.names } : Shared).heap := T.keep _ _ _ st3 fun b _ o e => pushCells_keeps _ _ _ _ (Heap.get?_push_of_some _ e)
  have hcH : L2H.HotC (Cx.blkH X p s3 (upd H2 D (.lst [])) scope (ctxOf X scope s3) fp) := ⟨p, hot, List.mem_singleton.mpr rfl⟩
  have hpn : ∀ b ∈ fp, ∀ r ∈ (Cx.blkH X p s3 (upd H2 D (.lst [])) scope (ctxOf X scope s3) fp).pn, r.1 ≠ b := fun b hb r hr => by
    obtain rfl := List.mem_singleton.mp hr
    exact (f3 b hb).1.2.2.2.2.2 r (List.mem_append_left _ hp)
  have n3 : ∀ b ∈ fp, (upd H2 D (.lst [])) b = none := fun b hb => (f3 b hb).1.1
  generalize hs4 : ({ s3 with heap := pushCells (s3.heap.push { cls := .type "dict", data := .dict #[] }) scope.names } : Shared) = s4 at I4 st4 ⊢
  have loop : codeAny (model X.prog X.w) X.A (.compLoop (.ListComp elt [⟨tg, iter, ifs, 0⟩] scope pos) 0 (.ref it) (.ref D) (ctxOf X scope s3)) (compPost (model X.prog X.w) X.A X.xe use Qf (.ref D) s3.heap.objs.size) s4 := by
    refine compLoop_any (fun n s' => ∃ i H', Inv (Cx.blkH X p s3 (upd H2 D (.lst [])) scope (ctxOf X scope s3) fp) [] (wipe σ (own.map (·.2))) H' s' ∧ tn i s'.heap ∧ (∀ b ∈ fp, H' b = none) ∧ W i n H') ?_ m0 ⟨0, _, I4, st4, n3, w0⟩
    rintro n s5 ⟨i, H5, I5, st5, n5, w5⟩
    rcases turn i n H5 w5 with ⟨stop, qq⟩ | ⟨go, Nx, hNx, step⟩
    · have hf5 : ∀ b ∈ fp, FpOk (Cx.blkH X p s3 (upd H2 D (.lst [])) scope (ctxOf X scope s3) fp) [] H5 b := fun b hb =>
        ⟨n5 b hb, (I5.ok.exf b hb).1, I5.ok.exfs b hb, .inl hb, fun x c e => (I5.ok.exf b hb).2 x c e, fun r hr => hpn b hb r (by simpa using hr)⟩
      refine thnF (T.done (Cx.blkH X p s3 (upd H2 D (.lst [])) scope (ctxOf X scope s3) fp) rfl rfl rfl hcH i [] s5 _ H5 (fun _ _ => False) I5 hf5 st5 stop) fun r s6 ⟨hr, I6⟩ => ?_
      subst hr
      have I7 : Inv X pins σ H5 s6 := I3.call' (ch := fp) I6.os I6.base I6.hok I6.bare fun b hb => ⟨(f3 b hb).1.2.2.2.1, (f3 b hb).1.2.1, (f3 b hb).1.2.2.2.2.1, (f3 b hb).1.2.2.2.2.2⟩
      have nC : H5 s3.heap.objs.size = none := I6.free
      obtain ⟨m, hn, _⟩ := I6.loc
      exact fin D s3.heap.objs.size s6 m H5 I7 qq hn (I3.fpOk (Nat.le_refl _) nC)
    · exact lcH_turn (X := (Cx.blkH X p s3 (upd H2 D (.lst [])) scope (ctxOf X scope s3) fp)) hcH rfl hpn rfl T (hg _ _ _ _ _) (ht _ _ _ _ _) (he _ _ _ _ _) I5 st5 n5 go hNx step
  exact codeAny_compStart_list loop (T.self X.A 0 _ _ _ st4 loop)
section
variable {elt tg iter : Expr} {ifs : List Expr} {pos : Pos} {wi : TI} {g : TG} {tt : TT} {te : TE}
theorem pe_lcH (hot : L2H.Hot1 X.A p) (hp : p ∈ X.pn) (hN : X.N.Nodup) (hi : L2H.PIH X tg iter wi) (ok : BlkOk X.N X.env.scope scope own)
    (hg : ∀ (s : Shared) (H : Hp) (C : Addr) (cl : List (Str × Addr)) (fp : List Addr), PG (Cx.blkH X p s H scope (compEnvC scope cl C X.env) fp) tg g)
    (ht : ∀ (s : Shared) (H : Hp) (C : Addr) (cl : List (Str × Addr)) (fp : List Addr), PTs (Cx.blkH X p s H scope (compEnvC scope cl C X.env) fp) ifs tt)
    (he : ∀ (s : Shared) (H : Hp) (C : Addr) (cl : List (Str × Addr)) (fp : List Addr), PE (Cx.blkH X p s H scope (compEnvC scope cl C X.env) fp) elt te) (hs : ∀ x, foldedSetIterable iter X.env x = pure x) :
    PE X (.ListComp elt [⟨tg, iter, ifs, 0⟩] scope pos) (tLc wi g tt te (own.map (·.2))) := by
  refine ⟨fun pins s σ H Q I h => ?_⟩
  rw [eval_ListComp]
  refine lcH_core hot hp hN I hi ok hg ht he hs h fun D C s' m H' I' q hn f => ⟨m, hn, fun h'' sb => ?_⟩
  exact ⟨.ref D, H', I'.turned (t' := s'.toks) (fun b o hb e => (sb.2 b hb).trans e) f.1 f.2.1 f.2.2.2.1 f.2.2.2.2.1 f.2.2.2.2.2, rfl, q⟩
theorem ps_setLcH {i : Nat} {y : Str} {py spos : Pos} (hot : L2H.Hot1 X.A p) (hp : p ∈ X.pn) (hN : X.N.Nodup) (hy : X.N[i]? = some y) (hyl : X.env.scope.names.lookup y = some .local)
    (hsw : swapsWith (.ListComp elt [⟨tg, iter, ifs, 0⟩] scope pos) (some (.Name y py)) spos.line X.env = pure true) (hi : L2H.PIH X tg iter wi) (ok : BlkOk X.N X.env.scope scope own)
    (hg : ∀ (s : Shared) (H : Hp) (C : Addr) (cl : List (Str × Addr)) (fp : List Addr), PG (Cx.blkH X p s H scope (compEnvC scope cl C X.env) fp) tg g)
    (ht : ∀ (s : Shared) (H : Hp) (C : Addr) (cl : List (Str × Addr)) (fp : List Addr), PTs (Cx.blkH X p s H scope (compEnvC scope cl C X.env) fp) ifs tt)
    (he : ∀ (s : Shared) (H : Hp) (C : Addr) (cl : List (Str × Addr)) (fp : List Addr), PE (Cx.blkH X p s H scope (compEnvC scope cl C X.env) fp) elt te) (hs : ∀ x, foldedSetIterable iter X.env x = pure x) :
    PS X (.Assign [.Name y py] (.ListComp elt [⟨tg, iter, ifs, 0⟩] scope pos) spos) (tAsg (tLc wi g tt te (own.map (·.2))) (gName i)) := by
  refine ⟨fun pins s σ H D I h => ?_⟩
  rw [exec_Assign_Name_used _ _ _ _ hsw]
  refine wpAny_bind (wpAny_standAt (wpAny_bind ?_))
  show wpAny _ X.A (do let _ ← comprehension (.ListComp elt [⟨tg, iter, ifs, 0⟩] scope pos) scope X.env (firstIterPos [⟨tg, iter, ifs, 0⟩] pos) (newList []) false (eval iter X.env) (some (assign (.Name y py) X.env))) _ _ s
  have h : tLc wi g tt te (own.map (·.2)) σ H (fun x H1 => gName i x σ H1 D.nx) := h
  refine wpAny_bind (thn (lcH_core (Qf := fun _ s' => SP X pins D .next s') hot hp hN I hi ok hg ht he hs h fun L C s' m H' I' q hn f => ?_) fun _ s' hq => wpAny_pure (wpAny_pure hq))
  show wpAny _ _ (assign (.Name y py) X.env (.ref L)) _ _ _
  refine wpAny_assign_Name (store_ok2 (v := V.ref L) I' hN hy (.inl hyl) rfl (fun s2 I2 ⟨a, sb, ha⟩ => ?_) (.inr hyl))
  have ne : C ≠ a := ha.elim (fun z => by rw [z]; exact f.2.1) fun z e => f.2.2.2.2.1 y a z e.symm
  exact ⟨m, hn.sameBut sb ne, fun h3 sb3 => ⟨_, H', I2.turned (t' := s2.toks) (fun b o hb e => (sb3.2 b hb).trans e) f.1 f.2.1 f.2.2.2.1 f.2.2.2.2.1 f.2.2.2.2.2, q⟩⟩
end
end
end MP
set_option Elab.async false
set_option linter.all false
set_option maxRecDepth 100000
set_option maxHeartbeats 2000000
/-! M11: all expressions. -/
namespace MP
open PySem L2 PySem.Spec PyProof.Rows
/-! ### targets -/
section
variable {X : Cx} {B : Bd}
theorem each_of {N : List Str} {sc : Scope} {env : PySem.Env} : ∀ {ts : Ts} {xs : List Expr}, okTs N sc ts xs = true → (assignEach xs env).length = xs.length ∧ (assignEach xs env).findIdx? (·.1) = none
  | .nil, [], _ => ⟨rfl, rfl⟩
  | .nil, _ :: _, h => by simp [okTs] at h
  | .cons _ _, [], h => by simp [okTs] at h
  | .cons t ts, x :: xs, h => by
    simp only [okTs, Bool.and_eq_true] at h
    obtain ⟨h1, h2⟩ := each_of (env := env) h.2
    have e : assignEach (x :: xs) env = (false, assign x env) :: assignEach xs env := by
      have := h.1.1
      cases x <;> first | rfl | cases this
    rw [e]
    refine ⟨by simp [h1], ?_⟩
    rw [List.findIdx?_cons]
    simp [h2]
theorem tgts_len : ∀ (ts : Ts) {N : List Str} {sc : Scope} {es : List Expr} {xs : List PV} {env env' : Env}, okTs N sc ts es = true → tgts ts xs env = some env' → xs.length = es.length
  | .nil, N, sc, es, xs, env, env', h, g => by
    cases es with
    | nil => cases xs with
      | nil => rfl
      | cons => simp [tgts] at g
    | cons => simp [okTs] at h
  | .cons t ts, N, sc, es, xs, env, env', h, g => by
    cases es with
    | nil => simp [okTs] at h
    | cons e es =>
      cases xs with
      | nil => simp [tgts] at g
      | cons x xs =>
        simp only [okTs, Bool.and_eq_true] at h
        simp only [tgts] at g
        cases ht : tgt t x 0 env with
        | none => rw [ht] at g; cases g
        | some e1 =>
          rw [ht] at g
          simp [tgts_len ts h.2 g]
mutual
theorem sG (hc : X.calm = true) (hK : B.K = X.K) (nd : X.N.Nodup) {sc : Scope} (tg : Tg X sc) : ∀ (t : T) (e : Expr), okT X.N sc t e = true → PG X e (gT B t)
  | .nm i, e, h => by
    cases e <;> simp only [okT] at h <;> try (cases h; done)
    simp only [Bool.and_eq_true, decide_eq_true_eq] at h
    exact PG.weak (pg_name nd h.1 (tg _ h.2).1 (tg _ h.2).2) fun v σ H Q h => gT_nm h
  | .tup ts, e, h => by
    cases e <;> simp only [okT] at h <;> try (cases h; done)
    rename_i es k pos
    obtain ⟨h1, h2⟩ := each_of (env := X.env) h
    refine PG.weak (pg_tup hc (sGs hc hK nd tg ts es h) h1 h2) fun v σ H Q g => ?_
    obtain ⟨a, vs, xs, rfl, hq, hl, ⟨env, env', ht⟩, g⟩ := gT_tup g
    exact ⟨a, vs, rfl, hK ▸ hq, by rw [hl, tgts_len ts h ht], g⟩
theorem sGs (hc : X.calm = true) (hK : B.K = X.K) (nd : X.N.Nodup) {sc : Scope} (tg : Tg X sc) : ∀ (ts : Ts) (es : List Expr), okTs X.N sc ts es = true → PGs X es (gTs B ts)
  | .nil, es, h => by
    cases es with
    | nil => exact PGs.weak pgs_nil fun v σ H Q h => gTs_nil h
    | cons => simp [okTs] at h
  | .cons t ts, es, h => by
    cases es with
    | nil => simp [okTs] at h
    | cons e es =>
      simp only [okTs, Bool.and_eq_true] at h
      refine PGs.weak (pgs_cons (sG hc hK nd tg t e h.1.2) (sGs hc hK nd tg ts es h.2) ?_) fun v σ H Q h => gTs_cons h
      have := h.1.1
      cases e <;> first | rfl | cases this
end

/-! ### a comprehension's block -/
theorem lookup_relabel_cell {env : PySem.Env} : ∀ {names : List (Str × NameKind)} {x : Str}, names.lookup x = some .cell →
    (names.map fun (n, k) => if (k == NameKind.free && env.scope.kind == .function && env.kindOf n == some .cell) then (n, NameKind.cell) else (n, k)).lookup x = some .cell
  | [], _, h => by simp at h
  | (n, k) :: r, x, h => by
    have ih := @lookup_relabel_cell env r x
    show List.lookup x ((if (k == NameKind.free && env.scope.kind == .function && env.kindOf n == some .cell) = true then (n, NameKind.cell) else (n, k)) :: _) = _
    cases hx : x == n with
    | true =>
      simp only [List.lookup_cons, hx] at h
      cases h
      simp [List.lookup_cons, hx]
    | false =>
      simp only [List.lookup_cons, hx] at h
      by_cases hc : (k == NameKind.free && env.scope.kind == .function && env.kindOf n == some .cell) = true
      · rw [if_pos hc]; simp only [List.lookup_cons, hx]; exact ih h
      · rw [if_neg hc]; simp only [List.lookup_cons, hx]; exact ih h
theorem Tg.blk {sc : Scope} (s : Shared) (H : Hp) (cl : List (Str × Addr)) (a : Addr) (fp : List Addr) : Tg (X.blk s H sc (compEnvC sc cl a X.env) fp) sc := by
  intro x h
  unfold locB at h
  split at h
  · rename_i hl
    have := lookup_relabel_local (env := X.env) hl
    exact ⟨.inl this, .inr this⟩
  · rename_i hl
    have := lookup_relabel_cell (env := X.env) hl
    refine ⟨.inr this, .inl ?_⟩
    show (sc.names.lookup x == some .cell) = true
    rw [hl]; rfl
  · cases h
theorem Cs.blk (C : Cs X B) (hx : B.hx = none) {sc : Scope} {own : List (Str × Nat)} (ok : BlkOk X.N X.env.scope sc own) (s : Shared) (H : Hp) (cl : List (Str × Addr)) (a : Addr) (fp : List Addr) : Cs (X.blk s H sc (compEnvC sc cl a X.env) fp) B.blk where
  K := C.K
  nd := C.nd
  kind := ok.kind
  un := C.un
  glb := C.glb
  blt := C.blt
  tk := fun u s' ⟨_, _, _, _, _, _, _, _, _, _, _, _, _, _, _, _, w⟩ => w.elim
  cf := C.cf
  cold := fun _ => C.cold hx
  fns := fun _ f fn h => ⟨(C.fns hx f fn h).at_⟩
  hot := fun j c x h => by rw [show B.blk.hx = B.hx from rfl, hx] at h; cases h
  clsN := C.clsN
  kit := C.kit
  xi := C.xi
  vi := C.vi
  own := C.own

/-- the same within an except suite -/
theorem Cs.blkH (C : Cs X B) {p : Addr × Obj} (hcal : X.calm = false) {j c : Nat} {x : PV} (hx : B.hx = some (j, c, x)) (hY : ∃ (Y : Cx) (pn : List (Addr × Obj)) (dd : Option Addr) (vx : V), X = Cx.suite Y B.ea (p :: pn) ∧ p.1 = B.ea ∧ L2N.Zn (.ref (B.ca c)) dd p.2 ∧ (∃ vs, p.2.data = .fields vs) ∧ XfC X.K (B.ca c) ∧
    PySem.W.findIn X.K (.ref (B.ca c)) (fldOf B.P c) = some none ∧ ExH B.P B.F0 c dd vx ∧ Rep B.F0 x vx) {sc : Scope} {own : List (Str × Nat)} (ok : BlkOk X.N X.env.scope sc own) (s : Shared) (H : Hp) (cl : List (Str × Addr)) (a : Addr) (fp : List Addr) : Cs (Cx.blkH X p s H sc (compEnvC sc cl a X.env) fp) B.blk where
  K := C.K
  nd := C.nd
  kind := ok.kind
  un := C.un
  glb := C.glb
  blt := C.blt
  tk := fun u s' ⟨_, _, _, _, _, _, _, _, _, _, _, _, _, _, _, _, w⟩ => w.elim
  cf := C.cf
  cold := fun h => by rw [show B.blk.hx = B.hx from rfl, hx] at h; cases h
  fns := fun h => by rw [show B.blk.hx = B.hx from rfl, hx] at h; cases h
  hot := fun j' c' x' h => by
    rw [show B.blk.hx = B.hx from rfl, hx] at h
    cases h
    obtain ⟨Y, pn, dd, vx, rfl, e, hz, hf, T, hno, hF, hR⟩ := hY
    obtain ⟨a', o'⟩ := p
    have e : a' = B.ea := e
    subst e
    exact ⟨Y.blk s H sc (compEnvC sc cl a Y.env) fp, o', [], dd, vx, rfl, hz, hf, T, hno, hF, hR⟩
  clsN := C.clsN
  kit := C.kit
  xi := C.xi
  vi := C.vi
  own := C.own

/-! ### operands one by one -/
def AllE (X : Cx) (B : Bd) : Es → List Expr → Prop
  | .cons e es, x :: xs => (PE X x (tE B e) ∧ PT X x (tT B e)) ∧ AllE X B es xs
  | _, _ => True
theorem pa_all {P : Prog} {N : List Str} {sc : Scope} : ∀ {es : Es} {xs : List Expr}, okEs P N sc es xs = true → AllE X B es xs → PA X xs (SAs B es)
  | .nil, [], _, _ => PA.weak pa_nil fun σ H Q h => sas_nil h
  | .nil, _ :: _, h, _ => by simp [okEs] at h
  | .cons _ _, [], h, _ => by simp [okEs] at h
  | .cons e es, x :: xs, h, a => by
    simp only [okEs, Bool.and_eq_true] at h
    exact PA.weak (pa_cons a.1.1 (pa_all h.2 a.2) (star_of h.1.1)) fun σ H Q h => sas_cons h
/-- and, or as values -/
theorem pe_bop {P : Prog} {N : List Str} {sc : Scope} {c : Bool} {pos : Pos} (hK : B.K = X.K) : ∀ {es : Es} {xs : List Expr}, okEs P N sc es xs = true → esNil es = false → AllE X B es xs → PE X (.BoolOp (opB c) xs pos) (tB' B false c es)
  | .nil, _, _, h, _ => by cases h
  | .cons _ _, [], h, _, _ => by simp [okEs] at h
  | .cons e .nil, [x], _, _, a => PE.weak (pe_one a.1.1) fun σ H Q h => bop1 h
  | .cons e .nil, x :: y :: xs, h, _, _ => by simp [okEs] at h
  | .cons e (.cons e' es), [x], h, _, _ => by simp [okEs] at h
  | .cons e (.cons e' es), x :: y :: xs, h, _, a => by
    simp only [okEs] at h
    have h2 : okEs P N sc (.cons e' es) (y :: xs) = true := (Bool.and_eq_true_iff.mp h).2
    have ih := pe_bop (c := c) (pos := pos) hK h2 rfl a.2
    cases c with
    | true =>
      refine PE.weak (pe_andT a.1.1 ih) fun σ H Q h => (bop2 h).mono fun v H1 ⟨k, t, q⟩ => ⟨k, hK ▸ t, ?_⟩
      exact q
    | false =>
      refine PE.weak (pe_orT a.1.1 ih) fun σ H Q h => (bop2 h).mono fun v H1 ⟨k, t, q⟩ => ⟨k, hK ▸ t, ?_⟩
      cases k with
      | true => rw [if_neg (by decide)] at q; exact (if_pos rfl).mpr q
      | false => rw [if_pos rfl] at q; exact (if_neg (by decide)).mpr q
/-- .. as tests -/
theorem pw_bop {P : Prog} {N : List Str} {sc : Scope} {c : Bool} {pos : Pos} : ∀ {es : Es} {xs : List Expr}, okEs P N sc es xs = true → esNil es = false → AllE X B es xs → PW X (.BoolOp (opB c) xs pos) (tTs B c es)
  | .nil, _, _, h, _ => by cases h
  | .cons _ _, [], h, _, _ => by simp [okEs] at h
  | .cons e .nil, [x], _, _, a => by
    cases c with
    | true => exact PW.weak (pw_and1 a.1.2) fun σ H Q h => tTs1 h
    | false => exact PW.weak (pw_or1 a.1.2) fun σ H Q h => tTs1 h
  | .cons e .nil, x :: y :: xs, h, _, _ => by simp [okEs] at h
  | .cons e (.cons e' es), [x], h, _, _ => by simp [okEs] at h
  | .cons e (.cons e' es), x :: y :: xs, h, _, a => by
    simp only [okEs] at h
    have h2 : okEs P N sc (.cons e' es) (y :: xs) = true := (Bool.and_eq_true_iff.mp h).2
    have ih := pw_bop (c := c) (pos := pos) h2 rfl a.2
    cases c with
    | true =>
      refine PW.weak (pw_and a.1.2 ih) fun σ H Q h => (tTs2 h).mono fun b H1 q => ?_
      cases b with
      | true => rw [if_pos rfl] at q; exact (if_pos rfl).mpr q
      | false => rw [if_neg (by decide)] at q; exact (if_neg (by decide)).mpr q
    | false =>
      refine PW.weak (pw_or a.1.2 ih) fun σ H Q h => (tTs2 h).mono fun b H1 q => ?_
      cases b with
      | true => rw [if_neg (by decide)] at q; exact (if_pos rfl).mpr q
      | false => rw [if_pos rfl] at q; exact (if_neg (by decide)).mpr q
/-- a test by its value -/
theorem pt_of (hK : B.K = X.K) {me : E} {e : Expr} (h : PE X e (tE B me)) (g : gen e = true) (hm : ∀ env, evA B.P B.cf B.hx true me env = evA B.P B.cf B.hx false me env) : PT X e (tT B me) :=
  PT.weak (pt_truth h (gen_of g)) fun σ H Q h => (tT_val hm h).mono fun v H1 ⟨k, t, q⟩ => ⟨k, hK ▸ t, q⟩
theorem cmp_bl {c : Cmp} {es : Es} {env : Env} {a : AV} {env' : Env} (h : evA B.P B.cf B.hx false (.prim (.cmp c) es) env = .ok a env') : ∃ b, a = .val (.bl b) 0 := by
  rw [evA] at h
  rw [if_neg (by rw [show needsCalm (.cmp c) = false from rfl, Bool.and_false]; decide)] at h
  cases hs : evAs B.P B.cf B.hx es [] env with
  | stuck => rw [hs] at h; cases h
  | exc c x e => rw [hs] at h; cases h
  | ok as env1 =>
    rw [hs] at h
    have h : (match (if isDisp (.cmp c) = true then settles as env1 else (resolves env1 as).map fun vs => (vs, env1)) with
      | some (vs, env) => match prim (.cmp c) vs with
        | some r => Out.ok (AV.val (ofPRes r).1 (ofPRes r).2) env
        | none => .stuck
      | none => .stuck) = .ok a env' := h
    rw [if_neg (show ¬ isDisp (.cmp c) = true from fun z => by cases z)] at h
    cases hr : resolves env1 as with
    | none => rw [hr] at h; cases h
    | some vs =>
      rw [hr] at h
      dsimp only [Option.map] at h
      cases hp : prim (.cmp c) vs with
      | none => rw [hp] at h; cases h
      | some r =>
        rw [hp] at h
        cases h
        match vs, hp with
        | [x, y], hp =>
          simp only [prim, Option.map_eq_some_iff] at hp
          obtain ⟨b, _, rfl⟩ := hp
          exact ⟨b, rfl⟩
theorem chn_bl {c c' : Cmp} {x y z : E} {env : Env} {a : AV} {env' : Env} (h : evA B.P B.cf B.hx false (.chn c c' x y z) env = .ok a env') : ∃ b, a = .val (.bl b) 0 := by
  rw [evA] at h
  cases h1 : evA B.P B.cf B.hx false x env with
  | stuck => rw [h1] at h; cases h
  | exc c x e => rw [h1] at h; cases h
  | ok a1 e1 =>
    rw [h1] at h
    dsimp only [Out.bind] at h
    cases h2 : evA B.P B.cf B.hx false y e1 with
    | stuck => rw [h2] at h; cases h
    | exc c x e => rw [h2] at h; cases h
    | ok a2 e2 =>
      rw [h2] at h
      dsimp only at h
      repeat' (split at h)
      all_goals first
        | (cases h; done)
        | (cases h; exact ⟨_, rfl⟩)
        | skip
      all_goals
        cases h3 : evA B.P B.cf B.hx false z e2 with
        | stuck => rw [h3] at h; cases h
        | exc c x e => rw [h3] at h; cases h
        | ok a3 e3 =>
          rw [h3] at h
          dsimp only at h
          repeat' (split at h)
          all_goals first
            | (cases h; done)
            | (cases h; exact ⟨_, rfl⟩)

theorem chn3_bl {c c' c'' : Cmp} {x y z t : E} {env : Env} {a : AV} {env' : Env} (h : evA B.P B.cf B.hx false (.chn3 c c' c'' x y z t) env = .ok a env') : ∃ b, a = .val (.bl b) 0 := by
  rw [evA] at h
  cases h1 : evA B.P B.cf B.hx false x env with
  | stuck => rw [h1] at h; cases h
  | exc c x e => rw [h1] at h; cases h
  | ok a1 e1 =>
    rw [h1] at h
    dsimp only [Out.bind] at h
    cases h2 : evA B.P B.cf B.hx false y e1 with
    | stuck => rw [h2] at h; cases h
    | exc c x e => rw [h2] at h; cases h
    | ok a2 e2 =>
      rw [h2] at h
      dsimp only at h
      repeat' (split at h)
      all_goals first
        | (cases h; done)
        | (cases h; exact ⟨_, rfl⟩)
        | skip
      all_goals
        cases h3 : evA B.P B.cf B.hx false z e2 with
        | stuck => rw [h3] at h; cases h
        | exc c x e => rw [h3] at h; cases h
        | ok a3 e3 =>
          rw [h3] at h
          dsimp only at h
          repeat' (split at h)
          all_goals first
            | (cases h; done)
            | (cases h; exact ⟨_, rfl⟩)
            | skip
          all_goals
            cases h4 : evA B.P B.cf B.hx false t e3 with
            | stuck => rw [h4] at h; cases h
            | exc c x e => rw [h4] at h; cases h
            | ok a4 e4 =>
              rw [h4] at h
              dsimp only at h
              repeat' (split at h)
              all_goals first
                | (cases h; done)
                | (cases h; exact ⟨_, rfl⟩)

def isEnu : MP.I → Bool
  | .enu _ => true
  | _ => false
theorem enuArgs_eq {sc : Scope} {e y : Expr} (h : enuArgs sc e = some y) : ∃ p pos, e = .Call (.Name "enumerate" p) [y] [] pos ∧ glB sc "enumerate" = true := by
  unfold enuArgs at h
  split at h
  · split at h
    · rename_i hf
      obtain ⟨rfl, hg⟩ := hf
      cases h
      exact ⟨_, _, rfl, hg⟩
    · cases h
  · cases h
theorem enuT_of {N : List Str} {sc : Scope} {it : MP.I} {tg : T} {t : Expr} (h : enuT it tg = true) (ht : okT N sc tg t = true) (hi : isEnu it = true) : ∃ es k p, t = .Tuple es k p := by
  cases it <;> try (cases hi; done)
  cases tg with
  | nm i => cases h
  | tup ts =>
    cases t <;> simp only [okT] at ht <;> first | exact ⟨_, _, _, rfl⟩ | (cases ht; done)
theorem gen2 {sc : Scope} {p : Prim} {e : Expr} {xs : List Expr} (h : primArgs2 sc p e = some xs) : gen e = true := by
  unfold primArgs2 at h
  split at h <;> first | rfl | (cases h; done)
theorem plainB_of {o : Expr} {m : Str} (h : plainB o = true) : attributeBase o m X.env (eval o X.env) = eval o X.env := by
  cases o <;> first | rfl | (cases h; done)
theorem se_prim2 (C : Cs X B) {p : Prim} {es : Es} {e : Expr} {xs : List Expr} (hp : primArgs2 X.env.scope p e = some xs) (h : okEs B.P X.N X.env.scope es xs = true) (all : AllE X B es xs) : PE X e (tE B (.prim p es)) := by
  unfold primArgs2 at hp
  split at hp
  · split at hp
    case isFalse => cases hp
    rename_i hf
    obtain ⟨rfl, h1, h2⟩ := hf
    cases hp
    obtain ⟨a, rfl, _, hs⟩ := okEs1 h
    exact pe_bitsU all.1.1 (plainB_of h2) h1
  · split at hp
    case isFalse => cases hp
    rename_i hf
    obtain ⟨rfl, rfl, h1, h2⟩ := hf
    cases hp
    obtain ⟨a, rfl, _, hs⟩ := okEs1 h
    exact pe_cntU all.1.1 (plainB_of h2) h1
  · split at hp
    case isFalse => cases hp
    rename_i hf
    obtain ⟨rfl, rfl⟩ := hf
    cases hp
    obtain ⟨a, rfl, _, hs⟩ := okEs1 h
    exact pe_fmtB all.1.1
  · split at hp
    case isFalse => cases hp
    rename_i hf
    subst hf
    cases hp
    obtain ⟨a, rfl, _, hs⟩ := okEs1 h
    exact pe_revU all.1.1
  · split at hp
    case isFalse => cases hp
    rename_i hf
    obtain ⟨rfl, rfl, h1, h2⟩ := hf
    cases hp
    obtain ⟨a, rfl, _, hs⟩ := okEs1 h
    cases hx : B.hx with
    | some z => exact pe_never fun σ H Q q => prim_hot (by rw [hx]; rfl) rfl q
    | none => exact pe_sset C.K (C.cold hx) (gl_of h1) (C.blt _ (by decide)) (gl_of h2) (C.blt _ (by decide)) all.1.1 hs
  · split at hp
    case isFalse => cases hp
    rename_i hf
    obtain ⟨rfl, rfl, h1, h2⟩ := hf
    cases hp
    obtain ⟨a, b, rfl, _, _⟩ := okEs2 h
    simp only [okEs, Bool.and_eq_true] at h
    obtain ⟨⟨hs1, _⟩, ⟨hs2, _⟩, _⟩ := h
    cases hx : B.hx with
    | some z => exact pe_never fun σ H Q q => prim_hot (by rw [hx]; rfl) rfl q
    | none => exact pe_lrng (C.cold hx) (gl_of h1) (C.blt _ (by decide)) (gl_of h2) (C.blt _ (by decide)) all.1.1 all.2.1.1 hs1 hs2
  · cases hp

/-! ### all together -/
theorem pe_stuck {e : Expr} {me : E} (h : ∀ env, evA B.P B.cf B.hx false me env = .stuck) : PE X e (tE B me) := pe_never fun σ H Q ⟨F, env, T, g, w, i, q⟩ => by
  rw [h] at q; exact q
theorem folded_of {e : Expr} {env : PySem.Env} (h : notSet e = true) : ∀ x, foldedSetIterable e env x = pure x := by
  intro x
  cases e <;> first | rfl | cases h
theorem pts_of {P : Prog} {N : List Str} {sc : Scope} {ifs : Es} {fs : List Expr} (h : okEs P N sc ifs fs = true) (h1 : atMost1 ifs = true) (a : AllE X B ifs fs) : PTs X fs (tC1 B ifs) := by
  match ifs, fs with
  | .nil, [] => exact pts_nil
  | .nil, _ :: _ => simp [okEs] at h
  | .cons e .nil, [] => simp [okEs] at h
  | .cons e .nil, [x] => exact pts_one a.1.2
  | .cons e .nil, x :: y :: z => simp [okEs] at h
  | .cons e (.cons e' es), _ => cases h1
end
theorem sGn (nd : X.N.Nodup) {sc : Scope} (tg : Tg X sc) {i : Nat} {e : Expr} (h : okT X.N sc (.nm i) e = true) : PG X e (gT B (.nm i)) := by
  cases e <;> simp only [okT] at h <;> try (cases h; done)
  simp only [Bool.and_eq_true, decide_eq_true_eq] at h
  exact PG.weak (pg_name nd h.1 (tg _ h.2).1 (tg _ h.2).2) fun v σ H Q h => gT_nm h
theorem pih_of (C : Cs X B) {a : E} {e : Expr} (h : okI B.P X.N X.env.scope (.rng (.cons a .nil)) e = true) (all : ∀ args, okEs B.P X.N X.env.scope (.cons a .nil) args = true → AllE X B (.cons a .nil) args) :
    (∀ tg, L2H.PIH X tg e (tI B (.rng (.cons a .nil)))) ∧ ∀ x, foldedSetIterable e X.env x = pure x := by
  simp only [okI] at h
  cases hr : rngArgs X.env.scope e with
  | none => rw [hr] at h; cases h
  | some args =>
  rw [hr] at h
  dsimp only at h
  rw [Bool.and_eq_true] at h
  obtain ⟨hn, hs⟩ := h
  unfold rngArgs at hr
  split at hr
  case h_2 => cases hr
  rename_i f pf xs pos
  split at hr
  case isFalse => cases hr
  rename_i hf
  obtain ⟨rfl, hg⟩ := hf
  cases hr
  refine ⟨fun tg => ?_, folded_of rfl⟩
  have al := all args hs
  match args, hs, al with
  | [x], hs, al =>
    have hs' := hs
    simp only [okEs, Bool.and_eq_true] at hs'
    exact ⟨fun pins s σ H R I q => (L2H.pi_range1H (tg := tg) (gl_of hg) (C.blt _ (by decide)) (pa_cons al.1.1 pa_nil (star_of hs'.1.1)) (by rw [star_of hs'.1.1]; rfl)).run pins s σ H R I (rng1_as q)⟩
  | [], hs, _ => simp [okEs] at hs
  | _ :: _ :: _, hs, _ => simp [okEs] at hs
/-- a comprehension's parts within an except suite -/
theorem lcH_parts (C : Cs X B) {j c : Nat} {x : PV} (hx : B.hx = some (j, c, x)) {elt : E} {tg : T} {it : MP.I} {ifs : Es} {own : List Nat} {ee t i : Expr} {fs : List Expr} {sc' : Scope} (hbad : lcBad B.hx tg it own = false)
    (hb : blkC X.N X.env.scope sc' (own.map fun k => (X.N[k]?.getD (Str.ofString ""), k)) = true) (hn : (tn tg).all (own.contains ·) = true) (ht : okT X.N sc' tg t = true) (hi : okI B.P X.N X.env.scope it i = true) (ha : atMost1 ifs = true) (hf : okEs B.P X.N (relB X.env.scope sc') ifs fs = true) (he : okE B.P X.N (relB X.env.scope sc') elt ee = true)
    (hE : ∀ {X : Cx} {B : Bd}, Cs X B → ∀ ee, okE B.P X.N X.env.scope elt ee = true → PE X ee (tE B elt)) (hF : ∀ {X : Cx} {B : Bd}, Cs X B → ∀ fs, okEs B.P X.N X.env.scope ifs fs = true → AllE X B ifs fs)
    (hA : ∀ a, it = .rng (.cons a .nil) → ∀ args, okEs B.P X.N X.env.scope (.cons a .nil) args = true → AllE X B (.cons a .nil) args) :
    ∃ p : Addr × Obj, L2H.Hot1 X.A p ∧ p ∈ X.pn ∧ (∀ tg', L2H.PIH X tg' i (tI B it)) ∧ (∀ x, foldedSetIterable i X.env x = pure x) ∧ BlkOk X.N X.env.scope sc' (own.map fun k => (X.N[k]?.getD (Str.ofString ""), k)) ∧
      (∀ (s : Shared) (H : Hp) (a : Addr) (cl : List (Str × Addr)) (fp : List Addr), PG (Cx.blkH X p s H sc' (compEnvC sc' cl a X.env) fp) t (gT B.blk tg)) ∧ (∀ (s : Shared) (H : Hp) (a : Addr) (cl : List (Str × Addr)) (fp : List Addr), PTs (Cx.blkH X p s H sc' (compEnvC sc' cl a X.env) fp) fs (tC1 B.blk ifs)) ∧
      (∀ (s : Shared) (H : Hp) (a : Addr) (cl : List (Str × Addr)) (fp : List Addr), PE (Cx.blkH X p s H sc' (compEnvC sc' cl a X.env) fp) ee (tE B.blk elt)) ∧
      ∀ σ H Q, tE B (.lc elt tg it ifs own) σ H Q → tLc (tI B it) (gT B.blk tg) (tC1 B.blk ifs) (tE B.blk elt) ((own.map fun k => (X.N[k]?.getD (Str.ofString ""), k)).map (·.2)) σ H Q := by
  obtain ⟨Y, oe, pn, dd, vx, hX, hz, hfs, T, hno, hFx, hR⟩ := (C.hot j c x hx).at_
  have ok := blkOk_by hb
  have hn' : ∀ j ∈ tn tg, j ∈ own := fun j hj => by
    have := List.all_eq_true.mp hn j hj
    simpa using this
  have ho : (own.map fun k => (X.N[k]?.getD (Str.ofString ""), k)).map (·.2) = own := by
    rw [List.map_map]
    exact List.map_id own
  have hif : ∀ a b c, ifs ≠ .cons a (.cons b c) := by rintro a b c rfl; cases ha
  have hcal : X.calm = false := by rw [hX]
  have CB := fun s H a cl fp => Cs.blkH C (p := (B.ea, oe)) hcal hx ⟨Y, pn, dd, vx, hX, rfl, hz, hfs, T, hno, hFx, hR⟩ ok s H cl a fp
  have hnm : ∃ i0, tg = .nm i0 := by
    cases tg with
    | nm i0 => exact ⟨i0, rfl⟩
    | _ => rw [hx] at hbad; simp [lcBad, isNm] at hbad
  have hrg : ∃ a, it = .rng (.cons a .nil) := by
    match it, hbad with
    | .rng (.cons a .nil), _ => exact ⟨a, rfl⟩
    | .rng .nil, hbad => rw [hx] at hbad; simp [lcBad, isRg1] at hbad
    | .rng (.cons a (.cons b c)), hbad => rw [hx] at hbad; simp [lcBad, isRg1] at hbad
    | .ex e, hbad => rw [hx] at hbad; simp [lcBad, isRg1] at hbad
    | .enu e, hbad => rw [hx] at hbad; simp [lcBad, isRg1] at hbad
  obtain ⟨i0, rfl⟩ := hnm
  obtain ⟨a0, rfl⟩ := hrg
  obtain ⟨p1, p2⟩ := pih_of C hi (hA a0 rfl)
  obtain ⟨vs, hvs⟩ := hfs
  refine ⟨(B.ea, oe), ⟨by rw [hX]; rfl, vs, hvs, hz.2.2 vs hvs⟩, by rw [hX]; exact List.mem_cons_self, p1, p2, ok, fun s H a cl fp => sGn (X := Cx.blkH X (B.ea, oe) s H sc' (compEnvC sc' cl a X.env) fp) (B := B.blk) C.nd (fun x h => Tg.blk (X := X) s H cl a fp x h) ht, fun s H a cl fp => pts_of (X := Cx.blkH X (B.ea, oe) s H sc' (compEnvC sc' cl a X.env) fp) (B := B.blk) hf ha (hF (CB s H a cl fp) fs hf), fun s H a cl fp => hE (CB s H a cl fp) ee he, fun σ H Q q => ?_⟩
  rw [ho]
  exact lc_as hbad hif hn' q

mutual
theorem sE : ∀ (me : E) {X : Cx} {B : Bd} (C : Cs X B) (e : Expr), okE B.P X.N X.env.scope me e = true → PE X e (tE B me) ∧ PT X e (tT B me)
  | .var i, X, B, C, e, h => by
    cases e <;> (try simp only [okE] at h) <;> try (cases h; done)
    exact ⟨se_var h, pt_of C.K (se_var h) rfl fun env => by rw [evA, evA]⟩
  | .glb g, X, B, C, e, h => by
    cases e <;> (try simp only [okE] at h) <;> try (cases h; done)
    exact ⟨se_glb C h, pt_of C.K (se_glb C h) rfl fun env => by rw [evA, evA]⟩
  | .cst c, X, B, C, e, h => by
    cases e <;> (try simp only [okE] at h) <;> try (cases h; done)
    exact ⟨se_cst h, pt_of C.K (se_cst h) rfl fun env => by rw [evA, evA]⟩
  | .prim p es, X, B, C, e, h => by
    simp only [okE] at h
    cases hp : primArgs X.env.scope p e with
    | none =>
      rw [hp] at h
      dsimp only at h
      cases hp2 : primArgs2 X.env.scope p e with
      | none => rw [hp2] at h; cases h
      | some xs =>
        rw [hp2] at h
        have all := sEs es C xs h
        have pe := se_prim2 C hp2 h all
        exact ⟨pe, pt_of C.K pe (gen2 hp2) fun env => by rw [evA, evA]⟩
    | some xs =>
      rw [hp] at h
      have all := sEs es C xs h
      have pe := se_prim C hp h (fun a x e1 e2 => by subst e1 e2; exact all.1.1) (fun a b x y e1 e2 => by subst e1 e2; exact ⟨all.1.1, all.2.1.1⟩) (pa_all h all)
      refine ⟨pe, ?_⟩
      have hm : ∀ env, evA B.P B.cf B.hx true (.prim p es) env = evA B.P B.cf B.hx false (.prim p es) env := fun env => by rw [evA, evA]
      by_cases hg : gen e = true
      · exact pt_of C.K pe hg hm
      · -- a comparison
        cases p with
        | cmp c =>
          cases e <;> simp only [primArgs] at hp <;> try (cases hp; done)
          · rename_i l ops rs pos
            match ops, rs, hp with
            | [op], [r], hp =>
              simp only [primArgs] at hp
              split at hp
              · rename_i ho
                cases hp
                obtain ⟨rfl, hb⟩ := ho
                obtain ⟨a, b, rfl, _, _⟩ := okEs2 h
                refine PT.weak (pt_cmpR (cmp_sem C.un c) all.1.1 all.2.1.1 hb) fun σ H Q q => ?_
                have q := tT_bl hm (fun env a env' => cmp_bl) q
                have q := prim2 rfl q
                rw [← C.K]
                exact q
              · cases hp
          · exact absurd rfl hg
        | neg =>
          cases e <;> simp only [primArgs] at hp <;> try (cases hp; done)
          · rename_i op l pos
            cases op <;> simp only [primArgs] at hp <;> first | (cases hp; done) | exact absurd rfl hg
          · exact absurd rfl hg
        | _ => cases e <;> simp only [primArgs] at hp <;> first | (cases hp; done) | exact absurd rfl hg
  | .not_ a, X, B, C, e, h => by
    cases e <;> (try simp only [okE] at h) <;> try (cases h; done)
    rename_i op x pos
    cases op <;> (try simp only [okE] at h) <;> try (cases h; done)
    have ih := sE a C x h
    exact ⟨PE.weak (pe_notT ih.1) fun σ H Q q => (not_as q).mono fun v H1 ⟨k, t, q⟩ => ⟨k, C.K ▸ t, q⟩, PT.weak (pt_not ih.2) fun σ H Q q => tT_not q⟩
  | .bop c es, X, B, C, e, h => by
    cases e <;> (try simp only [okE] at h) <;> try (cases h; done)
    rename_i op xs pos
    simp only [Bool.and_eq_true, decide_eq_true_eq, Bool.not_eq_true'] at h
    obtain ⟨⟨rfl, hn⟩, hs⟩ := h
    have all := sEs es C xs hs
    refine ⟨PE.weak (pe_bop C.K hs hn all) fun σ H Q ⟨F, env, T, g, w, i, q⟩ => ⟨F, env, T, g, w, i, by rwa [evA] at q⟩, PW.pt (PW.weak (pw_bop hs hn all) fun σ H Q q => tT_bop q)⟩
  | .chn c c' x y z, X, B, C, e, h => by
    cases e <;> (try simp only [okE] at h) <;> try (cases h; done)
    rename_i l ops rs pos
    match ops, rs, h with
    | [op, op'], [m, r], h =>
      simp only [okE, Bool.and_eq_true, decide_eq_true_eq, Bool.not_eq_true'] at h
      obtain ⟨⟨⟨⟨⟨rfl, rfl⟩, hb⟩, h1⟩, h2⟩, h3⟩ := h
      have i1 := (sE x C l h1).1
      have i2 := (sE y C m h2).1
      have i3 := (sE z C r h3).1
      have hl : lastMarks [cmpOf c, cmpOf c'] [m, r] = false := hb
      have hm : ∀ env, evA B.P B.cf B.hx true (.chn c c' x y z) env = evA B.P B.cf B.hx false (.chn c c' x y z) env := fun env => by rw [evA, evA]
      refine ⟨PE.weak (pe_chain (cmp_sem C.un c) (cmp_sem C.un c') i1 i2 i3 hl) fun σ H Q q => by rw [← C.K]; exact chn_as q, PT.weak (pt_chain (cmp_sem C.un c) (cmp_sem C.un c') i1 i2 i3 hl) fun σ H Q q => ?_⟩
      have q := chn_as (tT_bl hm (fun env a env' => chn_bl) q)
      rw [← C.K]
      exact q
  | .call f es, X, B, C, e, h => by
    cases e <;> (try simp only [okE] at h) <;> try (cases h; done)
    rename_i fe args kws pos
    cases fe <;> (try simp only [okE] at h) <;> try (cases h; done)
    rename_i x pf
    cases args with
    | nil =>
      cases kws <;> (try simp only [okE] at h) <;> try (cases h; done)
      simp only [Bool.and_eq_true] at h
      obtain ⟨⟨⟨hf, hg⟩, hd⟩, hs⟩ := h
      cases es with
      | cons a as => cases hs
      | nil =>
      have hm : ∀ env, evA B.P B.cf B.hx true (.call f .nil) env = evA B.P B.cf B.hx false (.call f .nil) env := fun env => by rw [evA, evA]
      have pe : PE X (.Call (.Name x pf) [] [] pos) (tE B (.call f .nil)) := by
        cases hx : B.hx with
        | some z => exact pe_stuck fun env => by rw [evA, hx]; rfl
        | none =>
          cases hfn : B.P.fns[f]? with
          | none => rw [hfn] at hf; cases hf
          | some fn =>
            rw [hfn] at hf
            obtain rfl := of_decide_eq_true hf
            obtain ⟨k, ad, fd, ps, hps, hmg, hkeep, hb, hr, F⟩ := (C.fns hx f fn hfn).at_
            exact PE.weak (pe_callS0 F hr (gl_of hg) hmg hkeep hb (fun σ => L2N.passAt C.tk σ) (dbg_of hd).1) fun σ H Q q => sas_nil (call_as C.cf hx q)
      exact ⟨pe, pt_of C.K pe rfl hm⟩
    | cons a as =>
    cases kws <;> (try simp only [okE] at h) <;> try (cases h; done)
    simp only [Bool.and_eq_true] at h
    obtain ⟨⟨⟨hf, hg⟩, hd⟩, hs⟩ := h
    have hm : ∀ env, evA B.P B.cf B.hx true (.call f es) env = evA B.P B.cf B.hx false (.call f es) env := fun env => by rw [evA, evA]
    have pe : PE X (.Call (.Name x pf) (a :: as) [] pos) (tE B (.call f es)) := by
      cases hx : B.hx with
      | some z => exact pe_stuck fun env => by rw [evA, hx]; rfl
      | none =>
        cases hfn : B.P.fns[f]? with
        | none => rw [hfn] at hf; cases hf
        | some fn =>
          rw [hfn] at hf
          obtain rfl := of_decide_eq_true hf
          obtain ⟨k, ad, fd, ps, hps, hmg, hkeep, hb, hr, F⟩ := (C.fns hx f fn hfn).at_
          have all := sEs es C (a :: as) hs
          match es, hs, all with
          | .cons e0 es, hs, all =>
            have hs' := hs
            simp only [okEs, Bool.and_eq_true] at hs'
            exact PE.weak (pe_callS F hr (gl_of hg) hmg hkeep hb (fun σ => L2N.passAt C.tk σ) (pa_all hs all) (dbg_of hd).1 (star_of hs'.1.1) (plain_of hs'.2)) fun σ H Q q => call_as C.cf hx q
    exact ⟨pe, pt_of C.K pe rfl hm⟩
  | .lc elt tg it ifs own, X, B, C, e, h => by
    cases e <;> (try simp only [okE] at h) <;> try (cases h; done)
    rename_i ee gens sc' pos
    have hm : ∀ env, evA B.P B.cf B.hx true (.lc elt tg it ifs own) env = evA B.P B.cf B.hx false (.lc elt tg it ifs own) env := fun env => by rw [evA, evA]
    split at h
    · rename_i t i fs
      simp only [Bool.and_eq_true] at h
      obtain ⟨⟨⟨⟨⟨⟨⟨hb, hn⟩, ht⟩, hen⟩, hi⟩, ha⟩, hf⟩, he⟩ := h
      have pe : PE X (.ListComp ee [⟨t, i, fs, 0⟩] sc' pos) (tE B (.lc elt tg it ifs own)) := by
        cases hx : B.hx with
        | some z =>
          by_cases hbad : lcBad B.hx tg it own = true
          · exact pe_stuck fun env => by rw [evA, if_pos hbad]
          · have hbad : lcBad B.hx tg it own = false := by simpa using hbad
            obtain ⟨j, c, x⟩ := z
            obtain ⟨q, hot, hq, hi1, hi2, ok, hg, ht', he', hw⟩ := lcH_parts C hx hbad hb hn ht hi ha hf he (fun C ee h => (sE elt C ee h).1) (fun C fs h => sEs ifs C fs h) (by
              rintro a rfl
              exact fun args h => sEs (.cons a .nil) C args h)
            exact PE.weak (pe_lcH hot hq C.nd (hi1 t) ok hg ht' he' hi2) hw
        | none =>
          have ok := blkOk_by hb
          have hn' : ∀ j ∈ tn tg, j ∈ own := fun j hj => by
            have := List.all_eq_true.mp hn j hj
            simpa using this
          have ho : (own.map fun k => (X.N[k]?.getD (Str.ofString ""), k)).map (·.2) = own := by
            rw [List.map_map]
            exact List.map_id own
          obtain ⟨hi1, hi2⟩ := sI it C i hi
          have hif : ∀ a b c, ifs ≠ .cons a (.cons b c) := by rintro a b c rfl; cases ha
          refine PE.weak (pe_lc (C.cold hx) C.nd (hi1 t (enuT_of hen ht)) ok (fun s H a cl fp => sG (X := X.blk s H sc' (compEnvC sc' cl a X.env) fp) (B := B.blk) (C.cold hx) C.K C.nd (Tg.blk s H cl a fp) tg t ht)
            (fun s H a cl fp => pts_of (X := X.blk s H sc' (compEnvC sc' cl a X.env) fp) (B := B.blk) hf ha (sEs ifs (Cs.blk C hx ok s H cl a fp) fs hf)) (fun s H a cl fp => (sE elt (Cs.blk C hx ok s H cl a fp) ee he).1) hi2) fun σ H Q q => ?_
          rw [ho]
          exact lc_as (by rw [hx]; rfl) hif hn' q
      exact ⟨pe, pt_of C.K pe rfl hm⟩
    · cases h
  | .exf i f, X, B, C, e, h => by
    cases e <;> (try simp only [okE] at h) <;> try (cases h; done)
    rename_i fe g pos
    cases fe <;> (try simp only [okE] at h) <;> try (cases h; done)
    rename_i x pf
    simp only [Bool.and_eq_true, decide_eq_true_eq] at h
    obtain ⟨⟨⟨⟨h1, h2⟩, h3⟩, rfl⟩, hnf⟩ := h
    have hm : ∀ env, evA B.P B.cf B.hx true (.exf i f) env = evA B.P B.cf B.hx false (.exf i f) env := fun env => by
      cases B.hx with
      | none => rw [evA, evA]
      | some z => obtain ⟨j, c, v⟩ := z; rw [evA, evA]
    have pe : PE X (.Attribute (.Name x pf) f pos) (tE B (.exf i f)) := by
      cases hx : B.hx with
      | none => exact pe_stuck fun env => by rw [hx, evA]
      | some z =>
        obtain ⟨j, c, v⟩ := z
        by_cases hij : i = j ∧ (B.P.cls[c]?.map (·.field)) = some f
        · obtain ⟨rfl, hf⟩ := hij
          have hfld : fldOf B.P c = f := by unfold fldOf; rw [hf]; rfl
          obtain ⟨Y, oe, pn, dd, vx, rfl, hz, hfs, T, hno, hF, hR⟩ := (C.hot i c v hx).at_
          cases dd with
          | none =>
            have : f = noF := hfld.symm.trans hF
            rw [this] at hnf
            simp at hnf
          | some dd =>
          have hF : B.F0 dd (.xd [(fldOf B.P c, vx)]) := hF
          rw [hfld] at hno hF
          obtain ⟨d1, d2⟩ := dbg_of h3
          refine PE.weak (pe_xf T hno hz.zc hfs (pe_var h1 (vis_of h2) d1 d2)) fun σ H Q ⟨F, env, T', gd, w, i0, q⟩ => ?_
          rw [hx, evA] at q
          simp only [hf, and_self, if_true] at q
          refine ⟨.ref B.ea, gd.sg i c v hx, rfl, rfl, dd, [(f, vx)], vx, rfl, ?_, by simp [List.lookup], ?_⟩
          · obtain ⟨cs, fr⟩ := i0.fr
            rcases fr.has _ _ (gd.le _ _ hF) with ⟨h, _⟩ | h
            · exact h
            · exact h.elim
          · exact q F H vx (.refl _) (.refl _) w (i0.add0 (Rep.mono gd.le _ _ hR)).mid trivial
        · exact pe_stuck fun env => by rw [hx, evA, if_neg hij]
    exact ⟨pe, pt_of C.K pe rfl hm⟩
  | .exi i k, X, B, C, e, h => by
    simp only [okE] at h
    cases ha : exiArgs e with
    | none => rw [ha] at h; cases h
    | some q =>
    obtain ⟨f, x, y⟩ := q
    rw [ha] at h
    simp only [Bool.and_eq_true, decide_eq_true_eq] at h
    obtain ⟨⟨⟨⟨⟨⟨⟨rfl, hg⟩, h1⟩, h2⟩, h3⟩, hk⟩, hgy⟩, hdy⟩ := h
    obtain ⟨p1, p2, p3, pos, rfl⟩ := exiArgs_eq ha
    have hm : ∀ env, evA B.P B.cf B.hx true (.exi i k) env = evA B.P B.cf B.hx false (.exi i k) env := fun env => by
      cases B.hx with
      | none => rw [evA, evA]
      | some z => obtain ⟨j, c, v⟩ := z; rw [evA, evA]
    have pe : PE X (.Call (.Name "isinstance" p1) [.Name x p2, .Name y p3] [] pos) (tE B (.exi i k)) := by
      cases hx : B.hx with
      | none => exact pe_stuck fun env => by rw [hx, evA]
      | some z =>
        obtain ⟨j, c, v⟩ := z
        cases hcl : B.P.cls[k]? with
        | none => rw [hcl] at hk; cases hk
        | some cl =>
        rw [hcl] at hk
        obtain rfl := of_decide_eq_true hk
        have hkl := (List.getElem?_eq_some_iff.mp hcl).1
        by_cases hij : i = j ∧ c < B.P.cls.length ∧ k < B.P.cls.length
        · obtain ⟨rfl, hc, _⟩ := hij
          obtain ⟨d1, d2⟩ := dbg_of h3
          have pn := pe_glob (pos := p3) (gl_of hgy) (C.clsN k cl hcl) (show RelV (V.ref (B.ca k)) (.ref (B.ca k)) from rfl) (dbg_of hdy).1
          have xi := C.xi c hc
          have kit := C.kit c k hc hkl
          have un := C.blt ("isinstance" : Str) (by decide)
          obtain ⟨Y, oe, pn', dd, vx, rfl, hz, hfs, T, hno, hF, hR⟩ := (C.hot i c v hx).at_
          refine PE.weak (pe_callB (call_isXo xi hz.zc hfs) (gl_of hg) un PyProof.Rows.boot_isinstance (pa_cons (pe_var h1 (vis_of h2) d1 d2) (pa_cons pn pa_nil))) fun σ H Q ⟨F, env, T', gd, w, i0, q⟩ => ?_
          rw [hx, evA] at q
          simp only [hc, hkl, and_self, if_true] at q
          obtain ⟨cs, fr⟩ := i0.fr
          refine ⟨.ref B.ea, gd.sg i c v hx, ?_⟩
          exact rIsXo_of (cv := .ref (B.ca k)) fr (hF.mono gd.le) (fun u r => r) kit (q F H (.bl (isUp B.P c k)) (.refl _) (.refl _) w (i0.add0 (rep_bl.mpr rfl)).mid trivial)
        · exact pe_stuck fun env => by rw [hx, evA, if_neg hij]
    exact ⟨pe, pt_of C.K pe rfl hm⟩
  | .exv i, X, B, C, e, h => by
    simp only [okE] at h
    cases ha : exiArgs e with
    | none => rw [ha] at h; cases h
    | some q =>
    obtain ⟨f, x, y⟩ := q
    rw [ha] at h
    simp only [Bool.and_eq_true, decide_eq_true_eq] at h
    obtain ⟨⟨⟨⟨⟨⟨rfl, hg⟩, h1⟩, h2⟩, h3⟩, rfl⟩, hgy⟩ := h
    obtain ⟨p1, p2, p3, pos, rfl⟩ := exiArgs_eq ha
    have hm : ∀ env, evA B.P B.cf B.hx true (.exv i) env = evA B.P B.cf B.hx false (.exv i) env := fun env => by
      cases B.hx with
      | none => rw [evA, evA]
      | some z => obtain ⟨j, c, v⟩ := z; rw [evA, evA]
    have pe : PE X (.Call (.Name "isinstance" p1) [.Name x p2, .Name "ValueError" p3] [] pos) (tE B (.exv i)) := by
      cases hx : B.hx with
      | none => exact pe_stuck fun env => by rw [hx, evA]
      | some z =>
        obtain ⟨j, c, v⟩ := z
        by_cases hij : i = j ∧ c < B.P.cls.length
        · obtain ⟨rfl, hc⟩ := hij
          obtain ⟨d1, d2⟩ := dbg_of h3
          have bv : bootBuiltins ("ValueError" : Str) = some (.type "ValueError") := by decide +kernel
          have pn : PE X (.Name "ValueError" p3) (tC (.ty "ValueError")) := pe_bltn (gl_of hgy) (C.blt _ (by decide)) bv rfl (by decide) (by decide)
          have xi := C.xi c hc
          have kit := C.vi c hc
          have un := C.blt ("isinstance" : Str) (by decide)
          obtain ⟨Y, oe, pn', dd, vx, rfl, hz, hfs, T, hno, hF, hR⟩ := (C.hot i c v hx).at_
          refine PE.weak (pe_callB (call_isXo xi hz.zc hfs) (gl_of hg) un PyProof.Rows.boot_isinstance (pa_cons (pe_var h1 (vis_of h2) d1 d2) (pa_cons pn pa_nil))) fun σ H Q ⟨F, env, T', gd, w, i0, q⟩ => ?_
          rw [hx, evA] at q
          simp only [hc, and_self, if_true] at q
          obtain ⟨cs, fr⟩ := i0.fr
          refine ⟨.ref B.ea, gd.sg i c v hx, ?_⟩
          exact rIsXo_of (cv := .type "ValueError") fr (hF.mono gd.le) (fun u r => r) kit (q F H (.bl true) (.refl _) (.refl _) w (i0.add0 (rep_bl.mpr rfl)).mid trivial)
        · exact pe_stuck fun env => by rw [hx, evA, if_neg hij]
    exact ⟨pe, pt_of C.K pe rfl hm⟩
  | .chn3 c c' c'' x y z t, X, B, C, e, h => by
    cases e <;> (try simp only [okE] at h) <;> try (cases h; done)
    rename_i l ops rs pos
    match ops, rs, h with
    | [op, op', op''], [m, r, q], h =>
      simp only [okE, Bool.and_eq_true, decide_eq_true_eq, Bool.not_eq_true'] at h
      obtain ⟨⟨⟨⟨⟨⟨⟨rfl, rfl⟩, rfl⟩, hb⟩, h1⟩, h2⟩, h3⟩, h4⟩ := h
      have i1 := (sE x C l h1).1
      have i2 := (sE y C m h2).1
      have i3 := (sE z C r h3).1
      have i4 := (sE t C q h4).1
      have hl : lastMarks [cmpOf c, cmpOf c', cmpOf c''] [m, r, q] = false := hb
      have hm : ∀ env, evA B.P B.cf B.hx true (.chn3 c c' c'' x y z t) env = evA B.P B.cf B.hx false (.chn3 c c' c'' x y z t) env := fun env => by rw [evA, evA]
      refine ⟨PE.weak (pe_chain3 (cmp_sem C.un c) (cmp_sem C.un c') (cmp_sem C.un c'') i1 i2 i3 i4 hl) fun σ H Q q => by rw [← C.K]; exact chn3_as q, PT.weak (pt_chain3 (cmp_sem C.un c) (cmp_sem C.un c') (cmp_sem C.un c'') i1 i2 i3 i4 hl) fun σ H Q q => ?_⟩
      have q := chn3_as (tT_bl hm (fun env a env' => chn3_bl) q)
      rw [← C.K]
      exact q
  | .slc x lo hi, X, B, C, e, h => by
    simp only [okE] at h
    cases ha : slcArgs e with
    | none => rw [ha] at h; cases h
    | some q =>
    obtain ⟨y, l, u⟩ := q
    rw [ha] at h
    simp only [Bool.and_eq_true] at h
    obtain ⟨⟨h1, h2⟩, h3⟩ := h
    obtain ⟨p2, pos, rfl⟩ := slcArgs_eq ha
    have hm : ∀ env, evA B.P B.cf B.hx true (.slc x lo hi) env = evA B.P B.cf B.hx false (.slc x lo hi) env := fun env => by rw [evA, evA]
    have pe : PE X (.Subscript y (.Slice l u none p2) pos) (tE B (.slc x lo hi)) :=
      PE.weak (pe_slice slc_sem (sE x C y h1).1 (sP lo C l h2) (sP hi C u h3)) fun σ H Q q => by rw [← C.K]; exact slc_as q
    exact ⟨pe, pt_of C.K pe rfl hm⟩
termination_by me => sizeOf me
theorem sP : ∀ (lo : Es) {X : Cx} {B : Bd} (C : Cs X B) (e : Option Expr), okP B.P X.N X.env.scope lo e = true → PO X e (tP B lo)
  | .nil, X, B, C, e, h => by
    cases e with
    | none => exact po_none
    | some e => simp only [okP] at h; cases h
  | .cons a .nil, X, B, C, e, h => by
    cases e with
    | none => simp only [okP] at h; cases h
    | some e =>
      simp only [okP] at h
      exact po_some (sE a C e h).1
  | .cons a (.cons b c), X, B, C, e, h => by
    cases e <;> simp only [okP] at h <;> cases h
termination_by lo => sizeOf lo
theorem sEs : ∀ (es : Es) {X : Cx} {B : Bd} (C : Cs X B) (xs : List Expr), okEs B.P X.N X.env.scope es xs = true → AllE X B es xs
  | .nil, X, B, C, xs, h => by cases xs <;> exact trivial
  | .cons e es, X, B, C, xs, h => by
    cases xs with
    | nil => exact trivial
    | cons x xs =>
      simp only [okEs, Bool.and_eq_true] at h
      exact ⟨sE e C x h.1.2, sEs es C xs h.2⟩
termination_by es => sizeOf es
theorem sI : ∀ (it : MP.I) {X : Cx} {B : Bd} (C : Cs X B) (e : Expr), okI B.P X.N X.env.scope it e = true → (∀ tg, (isEnu it = true → ∃ es k p, tg = .Tuple es k p) → PI X tg e (tI B it)) ∧ ∀ x, foldedSetIterable e X.env x = pure x
  | .ex me, X, B, C, e, h => by
    simp only [okI, Bool.and_eq_true] at h
    have ih := (sE me C e h.2).1
    exact ⟨fun tg _ => PI.weak (pi_seq ih) fun σ H R q => by rw [← C.K]; exact tI_ex q, folded_of h.1⟩
  | .rng es, X, B, C, e, h => by
    simp only [okI] at h
    cases hr : rngArgs X.env.scope e with
    | none => rw [hr] at h; cases h
    | some args =>
    rw [hr] at h
    dsimp only at h
    rw [Bool.and_eq_true] at h
    obtain ⟨hn, hs⟩ := h
    unfold rngArgs at hr
    split at hr
    case h_2 => cases hr
    rename_i f pf xs pos
    split at hr
    case isFalse => cases hr
    rename_i hf
    obtain ⟨rfl, hg⟩ := hf
    cases hr
    refine ⟨fun tg _ => ?_, folded_of rfl⟩
    have all := sEs es C args hs
    match es, args, hn, hs, all with
    | .cons a .nil, [x], hn, hs, all =>
      have hs' := hs
      simp only [okEs, Bool.and_eq_true] at hs'
      exact PI.weak (pi_range1 (gl_of hg) (C.blt _ (by decide)) (pa_cons all.1.1 pa_nil (star_of hs'.1.1)) (by rw [star_of hs'.1.1]; rfl)) fun σ H R q => rng1_as q
    | .cons a (.cons b .nil), [x, y], hn, hs, all =>
      have hs' := hs
      simp only [okEs, Bool.and_eq_true] at hs'
      exact PI.weak (pi_range2 (gl_of hg) (C.blt _ (by decide)) (pa_cons all.1.1 (pa_cons all.2.1.1 pa_nil (star_of hs'.2.1.1)) (star_of hs'.1.1)) (by rw [star_of hs'.1.1, star_of hs'.2.1.1]; rfl) (by rw [star_of hs'.2.1.1]; rfl)) fun σ H R q => rng2_as q
    | .cons a (.cons b (.cons c .nil)), [x, y, z], hn, hs, all =>
      have hs' := hs
      simp only [okEs, Bool.and_eq_true] at hs'
      exact PI.weak (pi_range3 (gl_of hg) (C.blt _ (by decide)) (pa_cons all.1.1 (pa_cons all.2.1.1 (pa_cons all.2.2.1.1 pa_nil (star_of hs'.2.2.1.1)) (star_of hs'.2.1.1)) (star_of hs'.1.1)) (by rw [star_of hs'.1.1]) (by rw [star_of hs'.2.1.1, star_of hs'.2.2.1.1]; rfl)) fun σ H R q => rng3_as q
    | .cons a (.cons b (.cons c .nil)), [], _, hs, _ => simp [okEs] at hs
    | .cons a (.cons b (.cons c .nil)), [_], _, hs, _ => simp [okEs] at hs
    | .cons a (.cons b (.cons c .nil)), [_, _], _, hs, _ => simp [okEs] at hs
    | .cons a (.cons b (.cons c .nil)), _ :: _ :: _ :: _ :: _, _, hs, _ => simp [okEs] at hs
    | .cons a .nil, [], _, hs, _ => simp [okEs] at hs
    | .cons a .nil, _ :: _ :: _, _, hs, _ => simp [okEs] at hs
    | .cons a (.cons b .nil), [], _, hs, _ => simp [okEs] at hs
    | .cons a (.cons b .nil), [_], _, hs, _ => simp [okEs] at hs
    | .cons a (.cons b .nil), _ :: _ :: _ :: _, _, hs, _ => simp [okEs] at hs
  | .enu me, X, B, C, e, h => by
    simp only [okI] at h
    cases ha : enuArgs X.env.scope e with
    | none => rw [ha] at h; cases h
    | some y =>
    rw [ha] at h
    dsimp only at h
    rw [Bool.and_eq_true] at h
    obtain ⟨p, pos, rfl, hg⟩ := enuArgs_eq ha
    have ih := (sE me C y h.2).1
    refine ⟨fun tg ht => ?_, folded_of rfl⟩
    obtain ⟨es, k, p2, rfl⟩ := ht rfl
    exact PI.weak (pi_enumX (gl_of hg) (C.blt _ (by decide)) ih h.1) fun σ H R q => by rw [← C.K]; exact tI_enu q
termination_by it => sizeOf it
end
end MP
set_option Elab.async false
set_option linter.all false
set_option maxRecDepth 100000
set_option maxHeartbeats 2000000
/-! M12: statements: the row's text does what the small text does. -/
namespace MP
open PySem L2 PySem.Spec PyProof.Rows

/-! ### assignments of several names -/
def isComp : Expr → Bool
  | .ListComp .. => true
  | .SetComp .. => true
  | .DictComp .. => true
  | _ => false
def nameOf : Expr → Option (Str × Pos)
  | .Name x p => some (x, p)
  | _ => none
/-- plain local names on one line -/
def lineNames (sc : Scope) (line : Nat) (ts : List Expr) : List Str := ts.filterMap fun
  | .Name id pos => if sc.names.lookup id == some .local && pos.line == line then some id else none
  | _ => none
theorem swapped_none {ts : List Expr} {k : Nat} {p : Pos} {v : Expr} {env : PySem.Env} (h : ∀ vs k2 p2, v = .Tuple vs k2 p2 → vs.all (foldedForSure 8) = true ∨ (lineNames env.scope ((ts.head?.map (·.pos.line)).getD 0) ts).length ≠ ts.length) :
    swappedStores [.Tuple ts k p] v env = pure none := by
  cases v <;> try rfl
  rename_i vs k2 p2
  have h := h vs k2 p2 rfl
  unfold swappedStores
  simp only
  split
  · rfl
  · split
    · rfl
    · split
      · rfl
      · rename_i h3
        rcases h with h | h
        · rw [if_pos h]
        · change ¬ ((lineNames env.scope ((ts.head?.map (·.pos.line)).getD 0) ts).length != ts.length || _) = true at h3
          exact absurd (by simp [h]) h3
theorem swapped_two {x y : Str} {px py p : Pos} {k k2 : Nat} {p2 : Pos} {a b : Expr} {env : PySem.Env} (hk : env.scope.kind = .function) (ha : notStar a = true) (hb : notStar b = true) (hx : env.scope.names.lookup x = some .local) (hy : env.scope.names.lookup y = some .local) (hl : px.line = py.line) (hxy : x ≠ y)
    (h1 : [a, b].all (foldedForSure 8) = false) (h2 : [a, b].all (constantsAlone 8) = false) : swappedStores [.Tuple [.Name x px, .Name y py] k p] (.Tuple [a, b] k2 p2) env = pure (some [x, y]) := by
  have bk : env.blockKind = .function := by unfold Env.blockKind; rw [hk]; rfl
  have kx : env.kindOf x = some .local := hx
  have ky : env.kindOf y = some .local := hy
  have star : ([a, b].any fun | .Starred .. => true | _ => false) = false := by
    cases a <;> cases b <;> first | rfl | (simp [notStar] at ha; done) | (simp [notStar] at hb; done)
  unfold swappedStores
  simp only [List.length_cons, List.length_nil, bk, star, h1, h2, List.head?, Option.map, Option.getD, Expr.pos, List.filterMap, kx, ky, hl]
  have e : ([x, y] : List Str).eraseDups.length = 2 := by
    rw [List.eraseDups_cons]
    have : (y == x) = false := by simpa using Ne.symm hxy
    simp only [List.filter, this, Bool.not_false]
    rw [List.eraseDups_cons]
    rfl
  simp [e]
  intro h
  rcases h with h | h
  · cases a <;> first | (simp [notStar] at ha; done) | cases h
  · cases b <;> first | (simp [notStar] at hb; done) | cases h
theorem swapped_three {x y z : Str} {px py pz p : Pos} {k k2 : Nat} {p2 : Pos} {a b c : Expr} {env : PySem.Env} (hk : env.scope.kind = .function) (ha : notStar a = true) (hb : notStar b = true) (hc : notStar c = true) (hx : env.scope.names.lookup x = some .local) (hy : env.scope.names.lookup y = some .local)
    (hz : env.scope.names.lookup z = some .local) (hl : px.line = py.line) (hl2 : px.line = pz.line) (hxy : x ≠ y) (hxz : x ≠ z) (hyz : y ≠ z)
    (h1 : [a, b, c].all (foldedForSure 8) = false) (h2 : [a, b, c].all (constantsAlone 8) = false) : swappedStores [.Tuple [.Name x px, .Name y py, .Name z pz] k p] (.Tuple [a, b, c] k2 p2) env = pure (some [x, y, z]) := by
  have bk : env.blockKind = .function := by unfold Env.blockKind; rw [hk]; rfl
  have kx : env.kindOf x = some .local := hx
  have ky : env.kindOf y = some .local := hy
  have kz : env.kindOf z = some .local := hz
  have star : ([a, b, c].any fun | .Starred .. => true | _ => false) = false := by
    have st : ∀ e, notStar e = true → (match e with | Expr.Starred .. => true | _ => false) = false := fun e h => by
      cases e <;> first | rfl | (simp [notStar] at h; done)
    simp only [List.any, Bool.or_false]
    rw [st a ha, st b hb, st c hc]; rfl
  unfold swappedStores
  simp only [List.length_cons, List.length_nil, bk, star, h1, h2, List.head?, Option.map, Option.getD, Expr.pos, List.filterMap, kx, ky, kz, ← hl, ← hl2]
  have e : ([x, y, z] : List Str).eraseDups.length = 3 := by
    have e1 : (y == x) = false := by simpa using Ne.symm hxy
    have e2 : (z == x) = false := by simpa using Ne.symm hxz
    have e3 : (z == y) = false := by simpa using Ne.symm hyz
    rw [List.eraseDups_cons]
    simp only [List.filter, e1, e2, Bool.not_false]
    rw [List.eraseDups_cons]
    simp only [List.filter, e3, Bool.not_false]
    rw [List.eraseDups_cons]
    rfl
  simp [e]
  intro h
  rcases h with h | h | h
  · cases a <;> first | (simp [notStar] at ha; done) | cases h
  · cases b <;> first | (simp [notStar] at hb; done) | cases h
  · cases c <;> first | (simp [notStar] at hc; done) | cases h
theorem swaps_false {e : Expr} {t : Option Expr} {n : Nat} {env : PySem.Env} (h : isComp e = false) : swapsWith e t n env = pure false := by
  cases e <;> first | rfl | cases h
theorem swaps_other {e t : Expr} {n : Nat} {env : PySem.Env} (h : nameOf t = none) : swapsWith e (some t) n env = pure false := by
  unfold swapsWith
  cases e <;> (try rfl) <;> (cases t <;> first | rfl | cases h)
end MP
set_option Elab.async false
set_option linter.all false
set_option maxRecDepth 100000
set_option maxHeartbeats 2000000
/-! M13: all statements. -/
namespace MP
open PySem L2 PySem.Spec PyProof.Rows

/-! ### the check -/
section
variable (P : Prog) (N : List Str)
def parNames (sc : Scope) : List Nat → List Expr → Bool
  | [], [] => true
  | i :: is, .Name x _ :: ts => decide (N[i]? = some x) && decide (sc.names.lookup x = some .local) && parNames sc is ts
  | _, _ => false
def sameLine : List Expr → Bool
  | .Name _ p :: ts => ts.all fun t => match t with | .Name _ q => decide (p.line = q.line) | _ => false
  | _ => false
/-- one target, its value -/
def okAsg (sc : Scope) (t : T) (e : E) (tg v : Expr) : Bool := okT N sc t tg && okE P N sc e v &&
  (match tg with
    | .Name .. => true
    | .Tuple ts _ _ => (match v with | .Tuple vs _ _ => vs.all (foldedForSure 8) || decide ((lineNames sc ((ts.head?.map (·.pos.line)).getD 0) ts).length ≠ ts.length) | _ => true)
    | _ => false)
def okPar (sc : Scope) (is : List Nat) (es : Es) (ts vs : List Expr) : Bool := parNames N sc is ts && (is.length == 2 || is.length == 3) && decide is.Nodup && sameLine ts && vs.all notStar && !vs.all (foldedForSure 8) && !vs.all (constantsAlone 8) && okEs P N sc es vs && vs.length == is.length
def okApp (sc : Scope) (i : Nat) (e : E) : Expr → Bool
  | .Call (.Attribute (.Name x _) m apos) [v] [] cpos => decide (N[i]? = some x) && visB sc x && dbg x && decide (m = "append") && (apos.endLine == cpos.line) && notStar v && okE P N sc e v
  | _ => false
def okIx (sc : Scope) (i : Nat) (ix e : E) : Expr → Expr → Bool
  | .Subscript (.Name x _) j _, v => decide (N[i]? = some x) && visB sc x && dbg x && plainIx j && okE P N sc ix j && okE P N sc e v
  | _, _ => false
def okRaise0 (sc : Scope) (c : Nat) : Expr → Bool
  | .Call (.Name x _) [] [] _ => (match P.cls[c]? with | some cl => decide (cl.name = x) && decide (cl.field = noF) | none => false) && glB sc x && dbg x
  | _ => false
def okRaise (sc : Scope) (c : Nat) (e : E) : Expr → Bool
  | .Call (.Name x _) [v] [] _ => (match P.cls[c]? with | some cl => decide (cl.name = x) | none => false) && (match P.cls[c]? with | some cl => !decide (cl.field = noF) | none => false) && glB sc x && dbg x && notStar v && okE P N sc e v
  | _ => false
end
section
def stAsg1 : Stmt → Option (Expr × Expr)
  | .Assign [tg] v _ => some (tg, v)
  | _ => none
def stPar : Stmt → Option (List Expr × List Expr)
  | .Assign [.Tuple ts _ _] (.Tuple vs _ _) _ => some (ts, vs)
  | _ => none
def stExpr : Stmt → Option Expr
  | .Expr v _ => some v
  | _ => none
def stIf : Stmt → Option (Expr × List Stmt × List Stmt)
  | .If c a b _ => some (c, a, b)
  | _ => none
def stWhl : Stmt → Option (Expr × List Stmt)
  | .While c b [] _ => some (c, b)
  | _ => none
def stFor : Stmt → Option (Expr × Expr × List Stmt)
  | .For t i b [] _ => some (t, i, b)
  | _ => none
def stRet : Stmt → Option Expr
  | .Return (some v) _ => some v
  | _ => none
def stRet0 : Stmt → Bool
  | .Return none _ => true
  | _ => false
def stRaise : Stmt → Option Expr
  | .Raise (some v) none _ => some v
  | _ => none
def stTry : Stmt → Option (List Stmt × Str × Str × List Stmt)
  | .Try body [.ExceptHandler (some (.Name x _)) (some n) hb _] [] [] _ => some (body, x, n, hb)
  | _ => none
def stBrk : Stmt → Bool
  | .Break _ => true
  | _ => false
def stCnt : Stmt → Bool
  | .Continue _ => true
  | _ => false
theorem stAsg1_eq {st : Stmt} {tg v : Expr} (h : stAsg1 st = some (tg, v)) : ∃ p, st = .Assign [tg] v p := by
  unfold stAsg1 at h; split at h <;> cases h; exact ⟨_, rfl⟩
theorem stPar_eq {st : Stmt} {ts vs : List Expr} (h : stPar st = some (ts, vs)) : ∃ k p k2 p2 q, st = .Assign [.Tuple ts k p] (.Tuple vs k2 p2) q := by
  unfold stPar at h; split at h <;> cases h; exact ⟨_, _, _, _, _, rfl⟩
theorem stExpr_eq {st : Stmt} {v : Expr} (h : stExpr st = some v) : ∃ p, st = .Expr v p := by
  unfold stExpr at h; split at h <;> cases h; exact ⟨_, rfl⟩
theorem stIf_eq {st : Stmt} {c : Expr} {a b : List Stmt} (h : stIf st = some (c, a, b)) : ∃ p, st = .If c a b p := by
  unfold stIf at h; split at h <;> cases h; exact ⟨_, rfl⟩
theorem stWhl_eq {st : Stmt} {c : Expr} {b : List Stmt} (h : stWhl st = some (c, b)) : ∃ p, st = .While c b [] p := by
  unfold stWhl at h; split at h <;> cases h; exact ⟨_, rfl⟩
theorem stFor_eq {st : Stmt} {t i : Expr} {b : List Stmt} (h : stFor st = some (t, i, b)) : ∃ p, st = .For t i b [] p := by
  unfold stFor at h; split at h <;> cases h; exact ⟨_, rfl⟩
theorem stRet_eq {st : Stmt} {v : Expr} (h : stRet st = some v) : ∃ p, st = .Return (some v) p := by
  unfold stRet at h; split at h <;> cases h; exact ⟨_, rfl⟩
theorem stRet0_eq {st : Stmt} (h : stRet0 st = true) : ∃ p, st = .Return none p := by
  unfold stRet0 at h; split at h <;> first | exact ⟨_, rfl⟩ | cases h
theorem stRaise_eq {st : Stmt} {v : Expr} (h : stRaise st = some v) : ∃ p, st = .Raise (some v) none p := by
  unfold stRaise at h; split at h <;> cases h; exact ⟨_, rfl⟩
theorem stTry_eq {st : Stmt} {body hb : List Stmt} {x n : Str} (h : stTry st = some (body, x, n, hb)) : ∃ px q p, st = .Try body [.ExceptHandler (some (.Name x px)) (some n) hb q] [] [] p := by
  unfold stTry at h; split at h <;> cases h; exact ⟨_, _, _, rfl⟩
theorem stBrk_eq {st : Stmt} (h : stBrk st = true) : ∃ p, st = .Break p := by
  unfold stBrk at h; split at h <;> first | exact ⟨_, rfl⟩ | cases h
theorem stCnt_eq {st : Stmt} (h : stCnt st = true) : ∃ p, st = .Continue p := by
  unfold stCnt at h; split at h <;> first | exact ⟨_, rfl⟩ | cases h
end
section
variable (P : Prog) (N : List Str)
def clsIs (k : Nat) (x : Str) : Bool := match P.cls[k]? with | some cl => decide (cl.name = x) | none => false
mutual
def okS (sc : Scope) : S → Stmt → Bool
  | .asg t e, st => match stAsg1 st with
    | some (tg, v) => okAsg P N sc t e tg v
    | none => false
  | .par is es, st => match stPar st with
    | some (ts, vs) => okPar P N sc is es ts vs
    | none => false
  | .setix i ix e, st => match stAsg1 st with
    | some (tg, v) => okIx P N sc i ix e tg v
    | none => false
  | .app i e, st => match stExpr st with
    | some v => okApp P N sc i e v
    | none => false
  | .exp e, st => match stExpr st with
    | some v => !isComp v && okE P N sc e v
    | none => false
  | .ifs c t f, st => match stIf st with
    | some (c', a, b) => okE P N sc c c' && okSs sc t a && okSs sc f b
    | none => false
  | .whl c b, st => match stWhl st with
    | some (c', b') => okE P N sc c c' && okSs sc b b'
    | none => false
  | .for_ t it b, st => match stFor st with
    | some (t', i', b') => okT N sc t t' && (enuT it t && okI P N sc it i') && okSs sc b b'
    | none => false
  | .ret e, st => match stRet st with
    | some v => okE P N sc e v
    | none => false
  | .ret0, st => stRet0 st
  | .raise0 c, st => match stRaise st with
    | some v => okRaise0 P sc c v
    | none => false
  | .raise c e, st => match stRaise st with
    | some v => okRaise P N sc c e v
    | none => false
  | .tryAs b k i h, st => match stTry st with
    | some (body, x, n, hb) => clsIs P k x && glB sc x && dbg x && decide (N[i]? = some n) && decide (sc.names.lookup n = some .local) && !hb.isEmpty && okSs sc b body && okSs sc h hb
    | none => false
  | .brk, st => stBrk st
  | .cnt, st => stCnt st
def okSs (sc : Scope) : Ss → List Stmt → Bool
  | .nil, sts => sts.isEmpty
  | .cons s ss, sts => match sts with
    | [] => false
    | x :: xs => okS sc s x && okSs sc ss xs
end
end

/-! ### errors made -/
/-- the promise of an error's own __init__ -/
def spErr (C : Addr) (f : Str) : Sp := fun vs H Q _ => ∃ (a : Addr) (v : V), vs = [.ref a, v] ∧ H a = some (exo a C none) ∧ ∀ dx, H dx = none → dx ≠ a → Q .non (upd (upd H dx (exd dx [(f, v)])) a (exo a C (some dx)))
structure ErrAt (X : Cx) (B : Bd) (c : Nat) (cl : Cl) : Prop where
  at_ : ∃ (fI : Addr) (k : Nat) (fd : FuncData) (ps : List Str) (CXi : CXT), X.mg cl.name = some (.ref (B.ca c)) ∧ OexC X.K (B.ca c) ∧ PySem.W.findIn X.K (.ref (B.ca c)) "__init__" = some (some (.ref fI)) ∧ PySem.W.typeIn X.K (.ref fI) = some (.type "function") ∧
    FnOk X.prog X.w X.K X.mg X.base CXi k fI fd ps (spErr (B.ca c) cl.field) ∧ Room (k + 1) X.A ∧ Binds X.K fd ps [] ∧ ∀ (Y : Cx) (E : Value → Shared → Prop), Passes CXi (Y.wish E) (fun _ _ _ => False)
/-- what is asked of a frame for statements -/
structure Ss' (X : Cx) (B : Bd) : Prop where
  cs : Cs X B
  tg : Tg X X.env.scope
  ps : B.hx = none → PassesOwn (model X.prog X.w) X.A X.env X.xe
  stk : X.stack = X.env :: X.outer
  frm : X.env.frame = some X.env.locals
  err : B.hx = none → ∀ (c : Nat) cl, B.P.cls[c]? = some cl → cl.field ≠ noF → ErrAt X B c cl
  exm : ∀ c k, c < B.P.cls.length → k < B.P.cls.length → PySem.W.exmOne X.K (.ref (B.ca c)) (.ref (B.ca k)) = some (isUp B.P c k)
  xf : ∀ c, c < B.P.cls.length → XfC X.K (B.ca c) ∧ PySem.W.findIn X.K (.ref (B.ca c)) (fldOf B.P c) = some none
section
variable {X : Cx} {B : Bd}
theorem PS.weak {st : Stmt} {t t' : TS} (p : PS X st t) (h : ∀ D σ H, t' D σ H → t D σ H) : PS X st t' := ⟨fun pins s σ H D I q => p.run pins s σ H D I (h D σ H q)⟩
theorem PSs.weak {st : List Stmt} {t t' : TS} (p : PSs X st t) (h : ∀ D σ H, t' D σ H → t D σ H) : PSs X st t' := ⟨fun pins s σ H D I q => p.run pins s σ H D I (h D σ H q)⟩
theorem ps_never {st : Stmt} {t : TS} (h : ∀ D σ H, ¬ t D σ H) : PS X st t := ⟨fun pins s σ H D I q => (h D σ H q).elim⟩
theorem tS_stuck {s : S} (h : ∀ env, exS B.P B.cf B.hx s env = .stuck) : ∀ D σ H, ¬ tS B s D σ H := fun D σ H ⟨F, env, T, s0, q⟩ => by
  rw [h] at q; exact q
/-- X(x), its __init__ written in the program: the object it makes has no context -/
theorem pmk_oexN {CX : CXT} {x : Str} {e : Expr} {C fI : Addr} {k : Nat} {fd : FuncData} {ps : List Str} {sp : Sp} {ta : TA} {p pos : Pos} (T : OexC X.K C) (iC : PySem.W.findIn X.K (.ref C) "__init__" = some (some (.ref fI))) (tI : PySem.W.typeIn X.K (.ref fI) = some (.type "function"))
    (F1 : FnOk X.prog X.w X.K X.mg X.base CX k fI fd ps sp) (hr : Room (k + 1) X.A) (hb : Binds X.K fd ps []) (hx : Passes CX X (fun _ _ _ => False)) (hg : Gl X x) (hm : X.mg x = some (.ref C)) (ha : PA X [e] ta) (hdb : (x == ("__debug__" : Str)) = false)
    (he : starEach [e] X.env = (false, eval e X.env) :: starEach [] X.env) : L2N.PMk X (.Call (.Name x p) [e] [] pos) (tMkO C sp [] ta) := by
  intro pins s σ H Q I h
  obtain ⟨nm, q, N, bs, bm, sn, sub, ab, col, dd, k0, k1, k2, k3, k5, hC, hbm⟩ := T.cls
  refine wpAny_Call_Name_kw (ld_glob I hg hm (PySem.W.callWith_K (h₀ := X.base) I.ok.mod.kin T.kC (thn (ha.run pos pins s σ H _ I h) fun us s1 ⟨vs, H1, I1, r1, hz, q1⟩ => ⟨I1.kIn, ?_⟩) he rfl) hdb)
  obtain ⟨hp, g, dr, tk, os⟩ := s1
  have fresh : H1 (hp.objs.size + 1) = none := I1.hok.fresh (Nat.le_succ _)
  have hq := q1 _ fresh
  rw [List.append_nil] at hq
  have r2 : Vals (V.ref (hp.objs.size + 1) :: vs) (Value.ref (hp.objs.size + 1) :: us) := .cons rfl r1
  have hl : (Value.ref (hp.objs.size + 1) :: us).length = ps.length := by rw [← F1.len _ _ _ _ hq]; exact r2.length.symm
  have kk : ∀ b o, hp.get? b = some o → ((hp.push (PySem.W.kdv_tup us)).push (PySem.HandSPX.excO C hp.objs.size)).get? b = some o := fun b o e => Heap.get?_push_of_some _ (Heap.get?_push_of_some _ e)
  have I2 : Inv X pins σ (upd H1 (hp.objs.size + 1) (exo (hp.objs.size + 1) C none)) ⟨(hp.push (PySem.W.kdv_tup us)).push (PySem.HandSPX.excO C hp.objs.size), g, dr, tk, os⟩ :=
    I1.laid (t' := tk) kk (Nat.le_succ _) (exo_ok (by heap_get))
  have hus : us.length ≤ sizeLine := by
    rw [← Paired.length r1, sizeLine_eq]
    omega
  have b2 := hb _ (Value.ref (hp.objs.size + 1) :: us) I2.kIn (by rw [List.append_nil]; exact hl)
  rw [List.append_nil] at b2
  refine wpAny_call (PySem.HandSPX.call_own F.excBase_ValueError (fun Y => PySem.HandSPX.refsVE_contains Y bm hbm) (I1.kIn _ _ hC) (PySem.W.looks_findIn I1.kIn iC) (fun self => PySem.W.bind_fn I1.kIn self tI) hus
    (codeAny_mono (F1.run _ X.stack _ _ ⟨Value.ref (hp.objs.size + 1) :: us, []⟩ _ _ _ (fun _ _ _ => False) (hr.make C us []) (I2.env0.make C us []) b2 r2 hq) fun r s' hq' => ?_))
  match r, hq' with
  | .error er, hq' => exact hx pins σ _ _ er s' I2 hq'
  | .ok .next, hq' => exact False.elim hq'
  | .ok .brk, hq' => exact False.elim hq'
  | .ok .cont, hq' => exact False.elim hq'
  | .ok (.ret u), ⟨v, H2, os2, bare2, un2, hok2, rv, ev, d, fs, ea, ed, hd1, q2⟩ =>
    subst ev
    obtain ⟨h2, g2, d2, t2, os'⟩ := s'
    obtain ⟨t0, G, J, kG, ge, hoe, na⟩ := mk_end0 (d2 := d2) (t2 := t2) I1 (Nat.le_succ _) kk un2 hok2 os2 bare2 ea ed hd1
    exact ⟨rv, ⟨_, _, _, ⟨G, g2, d2, t2, os'⟩, _, .ref C, some d, rfl, J, kG, ge, hoe, ⟨rfl, rfl, fun vs hv => by cases hv; rfl⟩, rfl, rfl, na, rfl, bare2, raises_own T.exC T.tyC, q2⟩⟩
/-- an error of an own class, made -/
theorem pmk_err {c : Nat} {cl : Cl} {v : Expr} {e : E} {p pos : Pos} (A : ErrAt X B c cl) (hcl : B.P.cls[c]? = some cl) (hg : Gl X cl.name) (hd : (cl.name == ("__debug__" : Str)) = false) (hs : notStar v = true) (h : PE X v (tE B e)) : L2N.PMk X (.Call (.Name cl.name p) [v] [] pos) (tMk B c (tE B e)) := by
  obtain ⟨fI, k, fd, ps, CXi, hm, T, iC, tI, F, hr, hb, hx⟩ := A.at_
  have hf : fldOf B.P c = cl.field := by unfold fldOf; rw [hcl]; rfl
  have m := pmk_oexN (p := p) (pos := pos) T iC tI F hr hb (hx X X.xe) hg hm (pa_cons h pa_nil (star_of hs)) hd (star_of hs)
  intro pins s σ H Q I q
  refine m pins s σ H Q I ?_
  have q : tE B e σ H fun v H1 => ∀ d, H1 d = none → Q (.ref (B.ca c)) (some d) (upd H1 d (.xd [(fldOf B.P c, v)])) := q
  refine q.mono fun v H1 q => ⟨by show 1 ≤ 1000; decide, fun a ha => ⟨a, v, rfl, upd_same, fun dx hdx ne => ⟨rfl, dx, [(cl.field, v)], upd_same, ?_, ?_, ?_⟩⟩⟩
  · rw [upd_ne ne, upd_same]
  · rw [upd_ne ne] at hdx; exact hdx
  · have hdx' : H1 dx = none := by rw [upd_ne ne] at hdx; exact hdx
    have e : upd (del (upd (upd (upd H1 a (exo a (B.ca c) none)) dx (exd dx [(cl.field, v)])) a (exo a (B.ca c) (some dx))) a) dx (.xd [(cl.field, v)]) = upd H1 dx (.xd [(cl.field, v)]) := by
      funext b
      by_cases h1 : b = dx
      · subst h1; rw [upd_same, upd_same]
      · rw [upd_ne h1, upd_ne h1]
        by_cases h2 : b = a
        · subst h2; rw [del_same]; exact ha.symm
        · rw [del_ne h2, upd_ne h2, upd_ne h1, upd_ne h2]
    rw [e, ← hf]
    exact q dx hdx'

/-! ### an except clause -/
/-- the clause's suite: the error's class, its field -/
def tH (B : Bd) (i : Nat) (h : Ss) (a : Addr) (cls : Value) (d : Option Addr) : TS := fun D σ H => ∃ c x dd vx F0', (cls = .ref (B.ca c) ∧ d = dd ∧ c < B.P.cls.length ∧ ExH B.P F0' c dd vx ∧ Rep F0' x vx ∧ B.F0.le F0') ∧
  tSs { B with hx := some (i, c, x), ea := a, F0 := F0', W := fun _ _ _ _ => False } h D σ H
def Bd.wish (B : Bd) (W : WX) : Bd := { B with W := W }
theorem try_as {b h : Ss} {k i : Nat} {D : Ends} {σ : L2.St} {H : Hp} (hx : B.hx = none) (hk : k < B.P.cls.length) (exm : ∀ c k, c < B.P.cls.length → k < B.P.cls.length → PySem.W.exmOne B.K (.ref (B.ca c)) (.ref (B.ca k)) = some (isUp B.P c k))
    (q : tS B (.tryAs b k i h) D σ H) : tSs (B.wish (wAs B.K (.ref (B.ca k)) i (tH B i h) B.W D)) b D σ H := by
  obtain ⟨F, env, T, s0, q⟩ := q
  refine ⟨F, env, T, ⟨⟨s0.gd.le, fun j c x e => s0.gd.sg j c x e⟩, fun j c x e => s0.ge j c x e, s0.wf, s0.inv⟩, ?_⟩
  rw [exS, hx] at q
  simp only [Option.isSome_none, Bool.false_eq_true, if_false] at q
  rw [← hx] at q
  show poS _ D σ T F env (exSs B.P B.cf B.hx b env)
  cases ho : exSs B.P B.cf B.hx b env with
  | next e => rw [ho] at q; exact q
  | brk e => rw [ho] at q; exact q
  | cnt e => rw [ho] at q; exact q
  | ret v d e => rw [ho] at q; exact q
  | stuck => rw [ho] at q; exact q
  | exc c x e =>
    rw [ho] at q
    dsimp only at q
    by_cases hcl : B.P.cls.length ≤ c
    · rw [if_pos hcl] at q; exact q.elim
    rw [if_neg hcl] at q
    have hcl : c < B.P.cls.length := Nat.lt_of_not_le hcl
    intro F1 σ1 H1 d vx l1 k1 w1 i1 hd hr
    refine ⟨isUp B.P c k, exm c k hcl hk, fun hu a ha => ?_, fun hu => ?_⟩
    · rw [hu] at q
      simp only [if_true] at q
      have go : ∀ (hi : i < e.length) (hlent : ∀ s, e[i]? = some (some s) → s.l = false ∧ s.d = 0), poS B D σ T F env (handled i (exSs B.P B.cf (some (i, c, x)) h (e.set i (some ⟨.opq, 0, true⟩)))) →
          tH B i h a (.ref (B.ca c)) d { nx := fun σ' H' => D.nx (σ'.set i none) H', rt := D.rt, bk := fun σ' H' => D.bk (σ'.set i none) H', ct := fun σ' H' => D.ct (σ'.set i none) H' } (σ1.set i (some (.ref a))) H1 := by
        intro hi hlent q
        have hsl : i < σ1.length := by rw [← w1.len]; exact hi
        refine ⟨c, x, d, vx, F1, ⟨rfl, rfl, hcl, hd, hr, s0.gd.le.trans l1⟩, F1, e.set i (some ⟨.opq, 0, true⟩), T, ⟨⟨.refl _, fun j c' x' e' => ?_⟩, fun j c' x' e' => ?_, w1.store _ _ hi, ?_⟩, ?_⟩
        · cases e'; exact List.getElem?_set_self hsl
        · cases e'; exact ⟨_, List.getElem?_set_self hi, rfl⟩
        · refine INV.store (s := ⟨.opq, 0, true⟩) ?_ hi w1.len
          exact (INV.setN (i := i) w1 i1).add0 (by simp only [Rep]; exact ⟨a, rfl⟩)
        · -- the suite's ends
          have keep : ∀ {e2 : Env} {σ2 : L2.St}, KeepS (e.set i (some ⟨.opq, 0, true⟩)) (σ1.set i (some (.ref a))) e2 σ2 → KeepS env σ (e2.set i none) (σ2.set i none) := fun {e2 σ2} k2 => by
            refine k1.trans ⟨by rw [List.length_set, k2.len, List.length_set], fun j s hs hl => ?_⟩
            have ne : i ≠ j := fun z => by subst z; rw [(hlent s hs).1] at hl; cases hl
            obtain ⟨⟨s', e1, l'⟩, e2'⟩ := k2.keep j s (by rw [List.getElem?_set_ne ne]; exact hs) hl
            exact ⟨⟨s', by rw [List.getElem?_set_ne ne]; exact e1, l'⟩, by rw [List.getElem?_set_ne ne, e2', List.getElem?_set_ne ne]⟩
          have inv : ∀ {e2 : Env} {σ2 : L2.St} {F2 : Fz} {R : List Root} {H2 : Hp}, WF e2 σ2 → INV B.K F2 (er e2 σ2 ++ R) H2 → WF (e2.set i none) (σ2.set i none) ∧ INV B.K F2 (er (e2.set i none) (σ2.set i none) ++ R) H2 := fun {e2 σ2 F2 R H2} w2 i2 => by
            refine ⟨⟨by rw [List.length_set, List.length_set]; exact w2.len, fun j s hs => ?_⟩, ?_⟩
            · by_cases z : i = j
              · subst z
                by_cases hi2 : i < e2.length
                · rw [List.getElem?_set_self hi2] at hs; cases hs
                · rw [List.getElem?_eq_none (by rw [List.length_set]; omega)] at hs; cases hs
              · rw [List.getElem?_set_ne z] at hs ⊢
                exact w2.val j s hs
            · rw [er_set]
              exact i2.setN w2
          show poS _ _ (σ1.set i (some (.ref a))) T F1 (e.set i (some ⟨.opq, 0, true⟩)) (exSs B.P B.cf (some (i, c, x)) h (e.set i (some ⟨.opq, 0, true⟩)))
          cases hh : exSs B.P B.cf (some (i, c, x)) h (e.set i (some ⟨.opq, 0, true⟩)) with
          | next e2 =>
            rw [hh] at q
            intro F2 σ2 H2 l2 k2 w2 i2
            obtain ⟨w3, i3⟩ := inv w2 i2
            exact q F2 (σ2.set i none) H2 (l1.trans l2) (keep k2) w3 i3
          | brk e2 =>
            rw [hh] at q
            intro F2 σ2 H2 l2 k2 w2 i2
            obtain ⟨w3, i3⟩ := inv w2 i2
            exact q F2 (σ2.set i none) H2 (l1.trans l2) (keep k2) w3 i3
          | cnt e2 =>
            rw [hh] at q
            intro F2 σ2 H2 l2 k2 w2 i2
            obtain ⟨w3, i3⟩ := inv w2 i2
            exact q F2 (σ2.set i none) H2 (l1.trans l2) (keep k2) w3 i3
          | ret v d2 e2 =>
            rw [hh] at q
            intro F2 σ2 H2 u l2 k2 w2 i2
            obtain ⟨w3, i3⟩ := inv w2 i2
            exact q F2 (σ2.set i none) H2 u (l1.trans l2) (keep k2) w3 i3
          | exc c2 x2 e2 => rw [hh] at q; exact q.elim
          | stuck => rw [hh] at q; exact q.elim
      cases he : e[i]? with
      | none => rw [he] at q; exact q.elim
      | some o =>
        have hi := (List.getElem?_eq_some_iff.mp he).1
        cases o with
        | none => rw [he] at q; exact go hi (fun s z => by rw [he] at z; cases z) q
        | some s =>
          rw [he] at q
          dsimp only at q
          by_cases hs : s.l = true ∨ s.d ≠ 0
          · rw [if_pos hs] at q; exact q.elim
          · rw [if_neg hs] at q
            refine go hi (fun t z => ?_) q
            rw [he] at z; cases z
            refine ⟨?_, ?_⟩
            · cases hl : s.l with
              | false => rfl
              | true => exact absurd (.inl hl) hs
            · exact Decidable.byContradiction fun z => hs (.inr z)
    · rw [hu] at q
      exact q F1 σ1 H1 d vx l1 k1 w1 i1 hd hr

/-! ### contexts -/
theorem Ss'.tr (S : Ss' X B) (hx : B.hx = none) {W : WX} {pn : List (Addr × Obj)} {xe : Value → Shared → Prop} (tk : L2N.Takes (X.tr pn xe) W) (hp : PassesOwn (model X.prog X.w) X.A X.env xe) : Ss' (X.tr pn xe) (B.wish W) where
  cs := ⟨S.cs.K, S.cs.nd, S.cs.kind, S.cs.un, S.cs.glb, S.cs.blt, tk, S.cs.cf, S.cs.cold, fun h f fn e => ⟨(S.cs.fns h f fn e).at_⟩, fun j c x h => (by rw [show (B.wish W).hx = B.hx from rfl, hx] at h; cases h), S.cs.clsN, S.cs.kit, S.cs.xi, S.cs.vi, S.cs.own⟩
  tg := S.tg
  ps := fun _ => hp
  stk := S.stk
  frm := S.frm
  err := fun h c cl e hf => ⟨(S.err h c cl e hf).at_⟩
  exm := S.exm
  xf := S.xf
theorem Ss'.suite (S : Ss' X B) {i c : Nat} {x : PV} {a : Addr} {dd : Option Addr} {F0' : Fz} {oe : Obj} {pn : List (Addr × Obj)} {vx : V} (hz : L2N.Zn (.ref (B.ca c)) dd oe) (hf : ∃ vs, oe.data = .fields vs) (hc : c < B.P.cls.length) (hd : ExH B.P F0' c dd vx) (hr : Rep F0' x vx) (le : B.F0.le F0') :
    Ss' (X.suite a ((a, oe) :: pn)) { B with hx := some (i, c, x), ea := a, F0 := F0', W := fun _ _ _ _ => False } where
  cs := ⟨S.cs.K, S.cs.nd, S.cs.kind, S.cs.un, fun g y v h => by
      obtain ⟨u, w, h1, h2, h3⟩ := S.cs.glb g y v h
      exact ⟨u, w, h1, h2, Rep.mono le _ _ h3⟩, S.cs.blt, fun u s' ⟨_, _, _, _, _, _, _, _, _, _, _, _, _, _, _, _, w⟩ => w.elim, S.cs.cf, fun h => (by cases h), fun h => (by cases h), fun j c' x' h => by
      cases h
      obtain ⟨T, hno⟩ := S.xf c hc
      exact ⟨X, oe, pn, dd, vx, rfl, hz, hf, T, hno, hd, hr⟩, S.cs.clsN, S.cs.kit, S.cs.xi, S.cs.vi, S.cs.own⟩
  tg := S.tg
  ps := fun h => (by cases h)
  stk := S.stk
  frm := S.frm
  err := fun h => (by cases h)
  exm := S.exm
  xf := S.xf
theorem parNames_get {N : List Str} {sc : Scope} : ∀ {is : List Nat} {ts : List Expr}, parNames N sc is ts = true → ts.length = is.length ∧ ∀ (j : Nat) i t, is[j]? = some i → ts[j]? = some t → ∃ x p, t = .Name x p ∧ N[i]? = some x ∧ sc.names.lookup x = some .local
  | [], [], _ => ⟨rfl, fun j i t h => by simp at h⟩
  | [], _ :: _, h => by simp [parNames] at h
  | _ :: _, [], h => by simp [parNames] at h
  | i :: is, t :: ts, h => by
    cases t <;> simp only [parNames] at h <;> try (cases h; done)
    rename_i x p
    simp only [Bool.and_eq_true, decide_eq_true_eq] at h
    obtain ⟨⟨h1, h2⟩, h3⟩ := h
    obtain ⟨hl, hg⟩ := parNames_get h3
    refine ⟨by simp [hl], fun j k t hj ht => ?_⟩
    cases j with
    | zero => simp at hj ht; subst hj ht; exact ⟨x, p, rfl, h1, h2⟩
    | succ j => exact hg j k t (by simpa using hj) (by simpa using ht)
theorem ps_parAll (S : Ss' X B) (hx : B.hx = none) {is : List Nat} {es : Es} {ts vs : List Expr} {k k2 : Nat} {p p2 pos : Pos} (h : okPar B.P X.N X.env.scope is es ts vs = true) : PS X (.Assign [.Tuple ts k p] (.Tuple vs k2 p2) pos) (tS B (.par is es)) := by
  simp only [okPar, Bool.and_eq_true, Bool.or_eq_true, decide_eq_true_eq, Bool.not_eq_true', beq_iff_eq] at h
  obtain ⟨⟨⟨⟨⟨⟨⟨⟨hp, hl⟩, nd⟩, hs⟩, hn⟩, h1⟩, h2⟩, hes⟩, hvl⟩ := h
  obtain ⟨htl, hg⟩ := parNames_get hp
  have all := sEs es S.cs vs hes
  have pa := pa_all hes all
  have hc := S.cs.cold hx
  match is, ts, vs, hl, htl, hvl with
  | [i, j], [t1, t2], [a, b], _, _, _ =>
    obtain ⟨x, px, rfl, n1, l1⟩ := hg 0 i t1 rfl rfl
    obtain ⟨y, py, rfl, n2, l2⟩ := hg 1 j t2 rfl rfl
    have hij : i ≠ j := by
      have := nd; simp at this; exact this
    have hxy : x ≠ y := fun z => hij (nodup_ix S.cs.nd n1 (z ▸ n2))
    simp only [List.all_cons, List.all_nil, Bool.and_eq_true] at hn
    have hline : px.line = py.line := by simpa [sameLine] using hs
    have hsw : swapsWithSole [.Tuple [.Name x px, .Name y py] k p] (.Tuple [a, b] k2 p2) pos.line X.env = pure false := rfl
    exact PS.weak (ps_par hc S.cs.nd n1 n2 hij l1 l2 pa (swapped_two S.cs.kind hn.1 hn.2.1 l1 l2 hline hxy h1 h2) hsw) fun D σ H q => (par_as q).mono fun vs H1 ⟨e, q⟩ => by
      match vs, e with
      | [v, w], _ =>
        refine ⟨v, w, rfl, ?_⟩
        rw [List.set_comm _ _ hij]
        exact q
  | [i, j, l], [t1, t2, t3], [a, b, c], _, _, _ =>
    obtain ⟨x, px, rfl, n1, l1⟩ := hg 0 i t1 rfl rfl
    obtain ⟨y, py, rfl, n2, l2⟩ := hg 1 j t2 rfl rfl
    obtain ⟨z, pz, rfl, n3, l3⟩ := hg 2 l t3 rfl rfl
    have hne : (i ≠ j ∧ i ≠ l) ∧ j ≠ l := by
      have := nd; simpa using this
    obtain ⟨⟨hij, hil⟩, hjl⟩ := hne
    have hxy : x ≠ y := fun e => hij (nodup_ix S.cs.nd n1 (e ▸ n2))
    have hxz : x ≠ z := fun e => hil (nodup_ix S.cs.nd n1 (e ▸ n3))
    have hyz : y ≠ z := fun e => hjl (nodup_ix S.cs.nd n2 (e ▸ n3))
    simp only [List.all_cons, List.all_nil, Bool.and_eq_true] at hn
    have hline : px.line = py.line ∧ px.line = pz.line := by simpa [sameLine] using hs
    have hsw : swapsWithSole [.Tuple [.Name x px, .Name y py, .Name z pz] k p] (.Tuple [a, b, c] k2 p2) pos.line X.env = pure false := rfl
    exact PS.weak (ps_par3 hc S.cs.nd n1 n2 n3 hij hil hjl l1 l2 l3 pa (swapped_three S.cs.kind hn.1 hn.2.1 hn.2.2.1 l1 l2 l3 hline.1 hline.2 hxy hxz hyz h1 h2) hsw) fun D σ H q => (par_as q).mono fun vs H1 ⟨e, q⟩ => by
      match vs, e with
      | [u, v, w], _ =>
        refine ⟨u, v, w, rfl, ?_⟩
        rw [List.set_comm _ _ hij, List.set_comm _ _ hil, List.set_comm _ _ hjl]
        exact q
  | [_, _], [_, _], [], _, _, e => simp at e
  | [_, _], [_, _], [_], _, _, e => simp at e
  | [_, _], [_, _], _ :: _ :: _ :: _, _, _, e => simp at e
  | [_, _], [], _, _, e, _ => simp at e
  | [_, _], [_], _, _, e, _ => simp at e
  | [_, _], _ :: _ :: _ :: _, _, _, e, _ => simp at e
  | [_, _, _], [_, _, _], [], _, _, e => simp at e
  | [_, _, _], [_, _, _], [_], _, _, e => simp at e
  | [_, _, _], [_, _, _], [_, _], _, _, e => simp at e
  | [_, _, _], [_, _, _], _ :: _ :: _ :: _ :: _, _, _, e => simp at e
  | [_, _, _], [], _, _, e, _ => simp at e
  | [_, _, _], [_], _, _, e, _ => simp at e
  | [_, _, _], [_, _], _, _, e, _ => simp at e
  | [_, _, _], _ :: _ :: _ :: _ :: _, _, _, e, _ => simp at e
  | [], _, _, hl, _, _ => simp at hl
  | [_], _, _, hl, _, _ => simp at hl
  | _ :: _ :: _ :: _ :: _, _, _, hl, _, _ => simp at hl
end
end MP
set_option Elab.async false
set_option linter.all false
set_option maxRecDepth 100000
set_option maxHeartbeats 2000000
/-! M14: all statements. -/
namespace MP
open PySem L2 PySem.Spec PyProof.Rows
section
variable {X : Cx} {B : Bd}
/-- the parts of a comprehension -/
theorem lc_parts (C : Cs X B) (hx : B.hx = none) {elt : E} {tg : T} {it : MP.I} {ifs : Es} {own : List Nat} {ee : Expr} {gens : List Comprehension} {sc' : Scope} {pos : Pos} (h : okE B.P X.N X.env.scope (.lc elt tg it ifs own) (.ListComp ee gens sc' pos) = true) :
    ∃ (t i : Expr) (fs : List Expr), gens = [⟨t, i, fs, 0⟩] ∧ BlkOk X.N X.env.scope sc' (own.map fun k => (X.N[k]?.getD (Str.ofString ""), k)) ∧ PI X t i (tI B it) ∧
      (∀ (s : Shared) (H : Hp) (a : Addr) (cl : List (Str × Addr)) (fp : List Addr), PG (X.blk s H sc' (compEnvC sc' cl a X.env) fp) t (gT B.blk tg)) ∧ (∀ (s : Shared) (H : Hp) (a : Addr) (cl : List (Str × Addr)) (fp : List Addr), PTs (X.blk s H sc' (compEnvC sc' cl a X.env) fp) fs (tC1 B.blk ifs)) ∧
      (∀ (s : Shared) (H : Hp) (a : Addr) (cl : List (Str × Addr)) (fp : List Addr), PE (X.blk s H sc' (compEnvC sc' cl a X.env) fp) ee (tE B.blk elt)) ∧ (∀ x, foldedSetIterable i X.env x = pure x) ∧
      ∀ σ H Q, tE B (.lc elt tg it ifs own) σ H Q → tLc (tI B it) (gT B.blk tg) (tC1 B.blk ifs) (tE B.blk elt) ((own.map fun k => (X.N[k]?.getD (Str.ofString ""), k)).map (·.2)) σ H Q := by
  simp only [okE] at h
  split at h
  · rename_i t i fs
    simp only [Bool.and_eq_true] at h
    obtain ⟨⟨⟨⟨⟨⟨⟨hb, hn⟩, ht⟩, hen⟩, hi⟩, ha⟩, hf⟩, he⟩ := h
    have ok := blkOk_by hb
    have hn' : ∀ j ∈ tn tg, j ∈ own := fun j hj => by
      have := List.all_eq_true.mp hn j hj
      simpa using this
    have ho : (own.map fun k => (X.N[k]?.getD (Str.ofString ""), k)).map (·.2) = own := by
      rw [List.map_map]
      exact List.map_id own
    obtain ⟨hi1, hi2⟩ := sI it C i hi
    have hif : ∀ a b c, ifs ≠ .cons a (.cons b c) := by rintro a b c rfl; cases ha
    refine ⟨t, i, fs, rfl, ok, hi1 t (enuT_of hen ht), fun s H a cl fp => sG (X := X.blk s H sc' (compEnvC sc' cl a X.env) fp) (B := B.blk) (C.cold hx) C.K C.nd (Tg.blk s H cl a fp) tg t ht,
      fun s H a cl fp => pts_of (X := X.blk s H sc' (compEnvC sc' cl a X.env) fp) (B := B.blk) hf ha (sEs ifs (Cs.blk C hx ok s H cl a fp) fs hf), fun s H a cl fp => (sE elt (Cs.blk C hx ok s H cl a fp) ee he).1, hi2, fun σ H Q q => ?_⟩
    rw [ho]
    exact lc_as (by rw [hx]; rfl) hif hn' q
  · cases h
theorem sAsg (S : Ss' X B) {t : T} {e : E} {tg v : Expr} {pos : Pos} (h : okAsg B.P X.N X.env.scope t e tg v = true) : PS X (.Assign [tg] v pos) (tS B (.asg t e)) := by
  unfold okAsg at h
  simp only [Bool.and_eq_true] at h
  obtain ⟨⟨ht, he⟩, hm⟩ := h
  have C := S.cs
  have pe := (sE e C v he).1
  cases tg <;> try (cases hm; done)
  case Name x p =>
    cases t <;> simp only [okT] at ht <;> try (cases ht; done)
    rename_i i
    simp only [Bool.and_eq_true, decide_eq_true_eq] at ht
    have plain : swapsWith v (some (.Name x p)) pos.line X.env = pure false → PS X (.Assign [.Name x p] v pos) (tS B (.asg (.nm i) e)) := fun hs =>
      PS.weak (ps_set C.nd ht.1 (S.tg _ ht.2).1 pe hs (S.tg _ ht.2).2) fun D σ H q => (asg_as q).mono fun w H1 g => gT_nm g
    cases hc : isComp v with
    | false => exact plain (swaps_false hc)
    | true =>
      cases v <;> simp only [isComp] at hc <;> try (cases hc; done)
      case ListComp ee gens sc' lpos =>
        cases e with
        | lc elt tg it ifs own =>
          cases hx : B.hx with
          | some z =>
            have hsub := he
            simp only [okE] at hsub
            split at hsub
            · rename_i tt i' fs
              simp only [Bool.and_eq_true] at hsub
              obtain ⟨⟨⟨⟨⟨⟨⟨hb, hn⟩, ht'⟩, hen⟩, hi⟩, ha⟩, hf⟩, he'⟩ := hsub
              by_cases hbad : lcBad B.hx tg it own = true
              · refine ps_never (tS_stuck fun env => ?_)
                have e1 : evA B.P B.cf B.hx false (.lc elt tg it ifs own) env = .stuck := by rw [evA, if_pos hbad]
                rw [exS]
                split
                · rfl
                · rw [e1]; rfl
              · have hbad : lcBad B.hx tg it own = false := by simpa using hbad
                obtain ⟨j, c, xx⟩ := z
                obtain ⟨q0, hot, hq, hi1, hi2, ok, hg, hts, hel, hw⟩ := lcH_parts C hx hbad hb hn ht' hi ha hf he' (fun C ee h => (sE elt C ee h).1) (fun C fs h => sEs ifs C fs h) (by
                  rintro a rfl
                  exact fun args h => sEs (.cons a .nil) C args h)
                have hsw : swapsWith (.ListComp ee [⟨tt, i', fs, 0⟩] sc' lpos) (some (.Name x p)) pos.line X.env = pure (X.env.blockKind == .function && X.env.kindOf x == some .local && p.line == lpos.line && !(sc'.names.any fun (n, k) => n == x && (k == .local || k == .cell))) := rfl
                cases hb : (X.env.blockKind == .function && X.env.kindOf x == some .local && p.line == lpos.line && !(sc'.names.any fun (n, k) => n == x && (k == .local || k == .cell))) with
                | false => rw [hb] at hsw; exact plain hsw
                | true =>
                  rw [hb] at hsw
                  have hl : X.env.scope.names.lookup x = some .local := by
                    simp only [Bool.and_eq_true, beq_iff_eq] at hb
                    exact hb.1.1.2
                  exact PS.weak (ps_setLcH hot hq C.nd ht.1 hl hsw (hi1 _) ok hg hts hel hi2) fun D σ H h => hw σ H _ ((asg_as h).mono fun w H1 g => gT_nm g)
            · cases hsub
          | none =>
            obtain ⟨tt, i', fs, rfl, ok, hi, hg, hts, hel, hfs, q⟩ := lc_parts C hx he
            have hsw : swapsWith (.ListComp ee [⟨tt, i', fs, 0⟩] sc' lpos) (some (.Name x p)) pos.line X.env = pure (X.env.blockKind == .function && X.env.kindOf x == some .local && p.line == lpos.line && !(sc'.names.any fun (n, k) => n == x && (k == .local || k == .cell))) := rfl
            cases hb : (X.env.blockKind == .function && X.env.kindOf x == some .local && p.line == lpos.line && !(sc'.names.any fun (n, k) => n == x && (k == .local || k == .cell))) with
            | false => rw [hb] at hsw; exact plain hsw
            | true =>
              rw [hb] at hsw
              have hl : X.env.scope.names.lookup x = some .local := by
                simp only [Bool.and_eq_true, beq_iff_eq] at hb
                exact hb.1.1.2
              exact PS.weak (ps_setLc (C.cold hx) C.nd ht.1 hl hsw hi ok hg hts hel hfs) fun D σ H h => q σ H _ ((asg_as h).mono fun w H1 g => gT_nm g)
        | prim p es => cases p <;> simp [okE, primArgs, primArgs2] at he
        | _ => simp [okE, exiArgs, slcArgs] at he
      case SetComp => cases e <;> simp [okE, exiArgs, slcArgs] at he; rename_i p es; cases p <;> simp [primArgs, primArgs2] at he
      case DictComp => cases e <;> simp [okE, exiArgs, slcArgs] at he; rename_i p es; cases p <;> simp [primArgs, primArgs2] at he
  case Tuple ts k p =>
    cases t <;> simp only [okT] at ht <;> try (cases ht; done)
    rename_i tt
    cases hx : B.hx with
    | some z => exact ps_never fun D σ H q => asg_hot (by rw [hx]; rfl) rfl q
    | none =>
      have pg : PG X (.Tuple ts k p) (gT B (.tup tt)) := sG (S.cs.cold hx) C.K C.nd S.tg (.tup tt) (.Tuple ts k p) (by simp only [okT]; exact ht)
      refine PS.weak (ps_asg pe pg (swaps_other (e := v) (t := .Tuple ts k p) (n := pos.line) (env := X.env) rfl) (swapped_none fun vs k2 p2 e => ?_) rfl) fun D σ H q => asg_as q
      subst e
      simpa using hm

theorem okS_names {P : Prog} {k : Nat} {x : Str} (h : clsIs P k x = true) : ∃ cl, P.cls[k]? = some cl ∧ cl.name = x := by
  unfold clsIs at h
  cases hk : P.cls[k]? with
  | none => rw [hk] at h; cases h
  | some cl => rw [hk] at h; exact ⟨cl, rfl, of_decide_eq_true h⟩
theorem okIx_parts {P : Prog} {N : List Str} {sc : Scope} {i : Nat} {ix e : E} {tg v : Expr} (h : okIx P N sc i ix e tg v = true) : ∃ x px j p, tg = .Subscript (.Name x px) j p ∧ N[i]? = some x ∧ visB sc x = true ∧ dbg x = true ∧ plainIx j = true ∧ okE P N sc ix j = true ∧ okE P N sc e v = true := by
  unfold okIx at h
  split at h
  · simp only [Bool.and_eq_true, decide_eq_true_eq] at h
    obtain ⟨⟨⟨⟨⟨h1, h2⟩, h3⟩, h4⟩, h5⟩, h6⟩ := h
    exact ⟨_, _, _, _, rfl, h1, h2, h3, h4, h5, h6⟩
  · cases h
theorem okApp_parts {P : Prog} {N : List Str} {sc : Scope} {i : Nat} {e : E} {w : Expr} (h : okApp P N sc i e w = true) : ∃ x px apos v cpos, w = .Call (.Attribute (.Name x px) "append" apos) [v] [] cpos ∧ N[i]? = some x ∧ visB sc x = true ∧ dbg x = true ∧ (apos.endLine == cpos.line) = true ∧ notStar v = true ∧ okE P N sc e v = true := by
  unfold okApp at h
  split at h
  · simp only [Bool.and_eq_true, decide_eq_true_eq] at h
    obtain ⟨⟨⟨⟨⟨⟨h1, h2⟩, h3⟩, rfl⟩, h4⟩, h5⟩, h6⟩ := h
    exact ⟨_, _, _, _, _, rfl, h1, h2, h3, h4, h5, h6⟩
  · cases h
theorem okRaise_parts {P : Prog} {N : List Str} {sc : Scope} {c : Nat} {e : E} {w : Expr} (h : okRaise P N sc c e w = true) : ∃ x px v cpos, w = .Call (.Name x px) [v] [] cpos ∧ clsIs P c x = true ∧ glB sc x = true ∧ dbg x = true ∧ notStar v = true ∧ okE P N sc e v = true ∧ (match P.cls[c]? with | some cl => !decide (cl.field = noF) | none => false) = true := by
  unfold okRaise at h
  split at h
  · simp only [Bool.and_eq_true] at h
    obtain ⟨⟨⟨⟨⟨h1, h6⟩, h2⟩, h3⟩, h4⟩, h5⟩ := h
    exact ⟨_, _, _, _, rfl, h1, h2, h3, h4, h5, h6⟩
  · cases h
theorem okRaise0_parts {P : Prog} {sc : Scope} {c : Nat} {w : Expr} (h : okRaise0 P sc c w = true) : ∃ x px cpos, w = .Call (.Name x px) [] [] cpos ∧ (match P.cls[c]? with | some cl => decide (cl.name = x) && decide (cl.field = noF) | none => false) = true ∧ glB sc x = true ∧ dbg x = true := by
  unfold okRaise0 at h
  split at h
  · rw [Bool.and_eq_true, Bool.and_eq_true] at h
    obtain ⟨⟨h1, h2⟩, h3⟩ := h
    exact ⟨_, _, _, rfl, h1, h2, h3⟩
  · cases h
theorem okVar_parts {P : Prog} {N : List Str} {sc : Scope} {i : Nat} {w : Expr} (h : okE P N sc (.var i) w = true) : ∃ x px, w = .Name x px ∧ N[i]? = some x ∧ visB sc x = true ∧ dbg x = true := by
  cases w <;> (try simp only [okE] at h) <;> try (cases h; done)
  simp only [Bool.and_eq_true, decide_eq_true_eq] at h
  exact ⟨_, _, rfl, h.1.1, h.1.2, h.2⟩
end
mutual
theorem sS : ∀ (s : S) {X : Cx} {B : Bd} (A : Ss' X B) (st : Stmt), okS B.P X.N X.env.scope s st = true → PS X st (tS B s)
  | .asg t e, X, B, A, st, h => by
    simp only [okS] at h
    cases hs : stAsg1 st with
    | none => rw [hs] at h; cases h
    | some q =>
      obtain ⟨tg, v⟩ := q
      rw [hs] at h
      obtain ⟨p, rfl⟩ := stAsg1_eq hs
      exact sAsg A h
  | .par is es, X, B, A, st, h => by
    simp only [okS] at h
    cases hs : stPar st with
    | none => rw [hs] at h; cases h
    | some q =>
      obtain ⟨ts, vs⟩ := q
      rw [hs] at h
      obtain ⟨k, p, k2, p2, pos, rfl⟩ := stPar_eq hs
      cases hx : B.hx with
      | some z => exact ps_never fun D σ H q => par_hot (by rw [hx]; rfl) q
      | none => exact ps_parAll A hx h
  | .setix i ix e, X, B, A, st, h => by
    simp only [okS] at h
    cases hs : stAsg1 st with
    | none => rw [hs] at h; cases h
    | some q =>
      obtain ⟨tg, v⟩ := q
      rw [hs] at h
      obtain ⟨pos, rfl⟩ := stAsg1_eq hs
      obtain ⟨x, px, j, p, rfl, h1, h2, h3, h4, h5, h6⟩ := okIx_parts h
      obtain ⟨d1, d2⟩ := dbg_of h3
      have pg : PG X (.Subscript (.Name x px) j p) (gSub (tVar i) (tE B ix) rSetL) := by
        refine pg_sub (pe_var h1 (vis_of h2) d1 d2) (sE ix A.cs j h5).1 set_list ?_
        intro v
        cases j <;> first | rfl | cases h4
      exact PS.weak (ps_asg (sE e A.cs v h6).1 pg (swaps_other (e := v) (t := .Subscript (.Name x px) j p) (n := pos.line) (env := X.env) rfl) rfl rfl) fun D σ H q => setix_as q
  | .app i e, X, B, A, st, h => by
    simp only [okS] at h
    cases hs : stExpr st with
    | none => rw [hs] at h; cases h
    | some w =>
      rw [hs] at h
      obtain ⟨pos, rfl⟩ := stExpr_eq hs
      obtain ⟨x, px, apos, v, cpos, rfl, h1, h2, h3, h4, h5, h6⟩ := okApp_parts h
      obtain ⟨d1, d2⟩ := dbg_of h3
      have pv := pe_bm (X := X) (apos := apos) (cpos := cpos) PySem.F.plainAttrs_list PySem.F.slot_list_append PySem.F.type_list_append mt_append (pe_var (pos := px) h1 (vis_of h2) d1 d2) (pa_cons (sE e A.cs v h6).1 pa_nil (star_of h5)) rfl (by rw [star_of h5]; rfl) h4 (star_of h5) rfl
      exact PS.weak (ps_expr pv (swaps_false rfl)) fun D σ H q => by rw [← A.cs.K]; exact app_as q
  | .exp e, X, B, A, st, h => by
    simp only [okS] at h
    cases hs : stExpr st with
    | none => rw [hs] at h; cases h
    | some v =>
      rw [hs] at h
      obtain ⟨pos, rfl⟩ := stExpr_eq hs
      simp only [Bool.and_eq_true, Bool.not_eq_true'] at h
      exact PS.weak (ps_expr (sE e A.cs v h.2).1 (swaps_false h.1)) fun D σ H q => exp_as q
  | .ifs c t f, X, B, A, st, h => by
    simp only [okS] at h
    cases hs : stIf st with
    | none => rw [hs] at h; cases h
    | some q =>
      obtain ⟨c', a, b⟩ := q
      rw [hs] at h
      obtain ⟨pos, rfl⟩ := stIf_eq hs
      simp only [Bool.and_eq_true] at h
      exact PS.weak (ps_if (sE c A.cs c' h.1.1).2 (sSs t A a h.1.2) (sSs f A b h.2)) fun D σ H q => ifs_as q
  | .whl c b, X, B, A, st, h => by
    simp only [okS] at h
    cases hs : stWhl st with
    | none => rw [hs] at h; cases h
    | some q =>
      obtain ⟨c', b'⟩ := q
      rw [hs] at h
      obtain ⟨pos, rfl⟩ := stWhl_eq hs
      simp only [Bool.and_eq_true] at h
      cases hx : B.hx with
      | some z => exact ps_never (tS_stuck fun env => by rw [exS, hx]; rfl)
      | none => exact PS.weak (ps_while (A.ps hx) (sE c A.cs c' h.1).2 (sSs b A b' h.2)) fun D σ H q => whl_as hx q
  | .for_ t it b, X, B, A, st, h => by
    simp only [okS] at h
    cases hs : stFor st with
    | none => rw [hs] at h; cases h
    | some q =>
      obtain ⟨t', i', b'⟩ := q
      rw [hs] at h
      obtain ⟨pos, rfl⟩ := stFor_eq hs
      simp only [Bool.and_eq_true] at h
      cases hx : B.hx with
      | some z => exact ps_never (tS_stuck fun env => by rw [exS, hx]; rfl)
      | none =>
        obtain ⟨i1, i2⟩ := sI it A.cs i' h.1.2.2
        exact PS.weak (ps_for (A.ps hx) (A.cs.cold hx) (i1 t' (enuT_of h.1.2.1 h.1.1)) (sG (A.cs.cold hx) A.cs.K A.cs.nd A.tg t t' h.1.1) (sSs b A b' h.2) i2) fun D σ H q => for_as hx q
  | .ret e, X, B, A, st, h => by
    simp only [okS] at h
    cases hs : stRet st with
    | none => rw [hs] at h; cases h
    | some v =>
      rw [hs] at h
      obtain ⟨pos, rfl⟩ := stRet_eq hs
      by_cases hv : ∃ i, e = .var i
      · obtain ⟨i, rfl⟩ := hv
        obtain ⟨x, px, rfl, h1, h2, h3⟩ := okVar_parts h
        obtain ⟨d1, d2⟩ := dbg_of h3
        exact PS.weak (ps_ret (pe_var h1 (vis_of h2) d1 d2)) fun D σ H q => ret_var q
      · exact PS.weak (ps_ret (sE e A.cs v h).1) fun D σ H q => ret_as (fun i z => hv ⟨i, z⟩) q
  | .ret0, X, B, A, st, h => by
    simp only [okS] at h
    obtain ⟨pos, rfl⟩ := stRet0_eq h
    exact PS.weak ps_retN fun D σ H q => ret0_as q
  | .raise0 c, X, B, A, st, h => by
    simp only [okS] at h
    cases hs : stRaise st with
    | none => rw [hs] at h; cases h
    | some v =>
      rw [hs] at h
      obtain ⟨pos, rfl⟩ := stRaise_eq hs
      cases hx : B.hx with
      | some z => exact ps_never (tS_stuck fun env => by rw [exS, hx]; rfl)
      | none =>
        obtain ⟨x, px, cpos, rfl, h1, h2, h3⟩ := okRaise0_parts h
        cases hcl : B.P.cls[c]? with
        | none => rw [hcl] at h1; cases h1
        | some cl =>
          rw [hcl] at h1
          simp only [Bool.and_eq_true, decide_eq_true_eq] at h1
          obtain ⟨rfl, hnf⟩ := h1
          have hf : fldOf B.P c = noF := by unfold fldOf; rw [hcl]; exact hnf
          have o := A.cs.own c cl hcl hnf
          exact PS.weak (L2N.ps_raise (A.cs.cold hx) A.cs.tk (pmk_own0 F.excBase_ValueError o.ex (A.cs.clsN c cl hcl) o.kp (raises_own o.sb o.ty) (gl_of h2) (dbg_of h3).1)) fun D σ H q => raise0_as hx hf q
  | .raise c e, X, B, A, st, h => by
    simp only [okS] at h
    cases hs : stRaise st with
    | none => rw [hs] at h; cases h
    | some v =>
      rw [hs] at h
      obtain ⟨pos, rfl⟩ := stRaise_eq hs
      cases hx : B.hx with
      | some z => exact ps_never (tS_stuck fun env => by rw [exS, hx]; rfl)
      | none =>
        obtain ⟨x, px, w, cpos, rfl, h1, h2, h3, h4, h5, h6⟩ := okRaise_parts h
        obtain ⟨cl, hcl, rfl⟩ := okS_names h1
        have hnf : cl.field ≠ noF := fun z => by
          rw [hcl] at h6
          simp only [z, decide_true, Bool.not_true, Bool.false_eq_true] at h6
        exact PS.weak (L2N.ps_raise (A.cs.cold hx) A.cs.tk (pmk_err (A.err hx c cl hcl hnf) hcl (gl_of h2) (dbg_of h3).1 h4 (sE e A.cs w h5).1)) fun D σ H q => raise_as hx q
  | .tryAs b k i hd, X, B, A, st, h => by
    simp only [okS] at h
    cases hs : stTry st with
    | none => rw [hs] at h; cases h
    | some q =>
      obtain ⟨body, x, n, hb⟩ := q
      rw [hs] at h
      obtain ⟨px, hpos, pos, rfl⟩ := stTry_eq hs
      cases hx : B.hx with
      | some z => exact ps_never (tS_stuck fun env => by rw [exS, hx]; rfl)
      | none =>
        simp only [Bool.and_eq_true, decide_eq_true_eq, Bool.not_eq_true'] at h
        obtain ⟨⟨⟨⟨⟨⟨⟨h1, h2⟩, h3⟩, h4⟩, h5⟩, h6⟩, h7⟩, h8⟩ := h
        obtain ⟨cl, hcl, rfl⟩ := okS_names h1
        have hk : k < B.P.cls.length := (List.getElem?_eq_some_iff.mp hcl).1
        cases hb with
        | nil => cases h6
        | cons b0 bs =>
          have hm := A.cs.clsN k cl hcl
          have nm : Names X cl.name (.ref (B.ca k)) := ⟨gl_of h2, (dbg_of h3).1, .inl hm⟩
          have p := L2N.ps_try_as (X := X) (i := i) (body := body) (np := px) (pos := pos) (pos' := hpos) (tb := fun W => tSs (B.wish W) b) (ts := tH B i hd) (Wout := B.W) A.stk A.frm A.cs.nd h4 h5 nm A.cs.tk
            (fun W pn xe tk hp => sSs b (A.tr hx tk hp) body h7)
            (fun a oe cls d pn hz hf => ⟨fun pins s σ H D I ⟨c, x, dd, vx, F0', ⟨e1, e2, hc, hd', hr, le⟩, q⟩ => by
              subst e1 e2
              exact (sSs hd (A.suite (i := i) (x := x) hz hf hc hd' hr le) (b0 :: bs) h8).run pins s σ H D I q⟩)
          exact PS.weak p fun D σ H q => by
            have := try_as hx hk (fun c k hc hk => by rw [A.cs.K]; exact A.exm c k hc hk) q
            rw [A.cs.K] at this
            exact this
  | .brk, X, B, A, st, h => by
    simp only [okS] at h
    obtain ⟨pos, rfl⟩ := stBrk_eq h
    exact PS.weak ps_break fun D σ H q => brk_as q
  | .cnt, X, B, A, st, h => by
    simp only [okS] at h
    obtain ⟨pos, rfl⟩ := stCnt_eq h
    exact PS.weak ps_continue fun D σ H q => cnt_as q
termination_by s => sizeOf s
theorem sSs : ∀ (ss : Ss) {X : Cx} {B : Bd} (A : Ss' X B) (sts : List Stmt), okSs B.P X.N X.env.scope ss sts = true → PSs X sts (tSs B ss)
  | .nil, X, B, A, sts, h => by
    simp only [okSs] at h
    obtain rfl := List.isEmpty_iff.mp h
    exact PSs.weak pss_nil fun D σ H q => sss_nil q
  | .cons s ss, X, B, A, sts, h => by
    simp only [okSs] at h
    cases sts with
    | nil => cases h
    | cons x xs =>
      simp only [Bool.and_eq_true] at h
      exact PSs.weak (pss_cons (sS s A x h.1) (sSs ss A xs h.2)) fun D σ H q => sss_cons q
termination_by ss => sizeOf ss
end
end MP
set_option Elab.async false
set_option linter.all false
set_option maxRecDepth 100000
set_option maxHeartbeats 2000000
/-! M15: functions, by their depth. -/
namespace MP
open PySem L2 PySem.Spec PyProof.Rows

/-! ### the entry of a body -/
theorem er_start : ∀ {ss : List Slot} {vs : List V} (n m : Nat), ss.length = vs.length → er (ss.map some ++ List.replicate n none) (vs.map some ++ List.replicate m none) = argR ss vs
  | [], [], n, m, _ => by
    show er (List.replicate n none) (List.replicate m none) = []
    induction n generalizing m with
    | zero => rfl
    | succ n ih =>
      cases m with
      | zero => rfl
      | succ m => exact ih m
  | s :: ss, v :: vs, n, m, h => by
    have := er_start (ss := ss) (vs := vs) n m (by simpa using h)
    show ⟨s.v, s.d, v⟩ :: er (ss.map some ++ List.replicate n none) (vs.map some ++ List.replicate m none) = _
    rw [this]; rfl
  | [], _ :: _, _, _, h => by simp at h
  | _ :: _, [], _, _, h => by simp at h
theorem wf_start {ss : List Slot} {vs : List V} {n : Nat} (h : ss.length = vs.length) : WF (ss.map some ++ List.replicate n none) (vs.map some ++ List.replicate n none) := by
  refine ⟨by simp [h], fun i s e => ?_⟩
  by_cases hi : i < ss.length
  · have hv : i < vs.length := h ▸ hi
    refine ⟨vs[i], ?_⟩
    rw [List.getElem?_append_left (by simpa using hv), List.getElem?_map, List.getElem?_eq_getElem hv]
    rfl
  · rw [List.getElem?_append_right (by simpa using hi), List.getElem?_replicate] at e
    split at e <;> cases e
/-- what was lent is among what the frame holds at the end -/
theorem lent_sub : ∀ {ss : List Slot} {vs : List V} {e : Env} {σ : L2.St}, ss.length = vs.length → (∀ (i : Nat) s, ss[i]? = some s → s.l = true → (∃ s', e[i]? = some (some s') ∧ s'.l = true) ∧ σ[i]? = (vs[i]?).map some) → (lentR ss (finals ss.length e) vs).Sublist (er e σ)
  | [], _, e, σ, _, _ => by
    show List.Sublist [] _
    exact List.nil_sublist _
  | s :: ss, [], e, σ, h, _ => by simp at h
  | s :: ss, v :: vs, e, σ, h, k => by
    have hl : ss.length = vs.length := by simpa using h
    have step : ∀ (o : Option Slot) (e' : Env), finals (ss.length + 1) (o :: e') = (match o with | some s => (s.v, s.d) | none => (.non, 0)) :: finals ss.length e' := fun o e' => by
      unfold finals
      rw [List.range_succ_eq_map, List.map_cons, List.map_map]
      congr 1
      cases o <;> rfl
    have stepN : finals (ss.length + 1) [] = (PV.non, 0) :: finals ss.length [] := by
      unfold finals
      rw [List.range_succ_eq_map, List.map_cons, List.map_map]
      congr 1
    cases e with
    | nil =>
      cases hs : s.l with
      | true =>
        obtain ⟨⟨s', e1, _⟩, _⟩ := k 0 s rfl hs
        simp at e1
      | false =>
        show List.Sublist (lentR (s :: ss) (finals (ss.length + 1) []) (v :: vs)) _
        rw [stepN]
        show List.Sublist (if s.l = true then _ else _) _
        rw [if_neg (by rw [hs]; decide)]
        have ih := lent_sub (ss := ss) (vs := vs) (e := []) (σ := []) hl fun i t hi hl => by
          obtain ⟨⟨s', e1, _⟩, _⟩ := k (i + 1) t hi hl
          simp at e1
        exact ih
    | cons o e =>
      show List.Sublist (lentR (s :: ss) (finals (ss.length + 1) (o :: e)) (v :: vs)) _
      rw [step]
      cases σ with
      | nil =>
        have no : ∀ (i : Nat) t, (s :: ss)[i]? = some t → t.l = true → False := fun i t hi hl => by
          obtain ⟨_, e2⟩ := k i t hi hl
          have hlt : i < (v :: vs).length := h ▸ (List.getElem?_eq_some_iff.mp hi).1
          rw [List.getElem?_eq_getElem hlt] at e2
          simp at e2
        have ih := lent_sub (ss := ss) (vs := vs) (e := e) (σ := []) hl fun i t hi hl => (no (i + 1) t hi hl).elim
        show List.Sublist (if s.l = true then _ else _) _
        rw [if_neg (fun z => no 0 s rfl z)]
        have : er e [] = [] := by
          cases e with
          | nil => rfl
          | cons q _ => cases q <;> rfl
        rw [this] at ih
        have z : er (o :: e) [] = [] := by cases o <;> rfl
        rw [z]
        exact ih
      | cons x σ =>
        have ih := lent_sub (ss := ss) (vs := vs) (e := e) (σ := σ) hl fun i t hi hl => k (i + 1) t hi hl
        show List.Sublist (if s.l = true then _ else _) _
        cases hs : s.l with
        | true =>
          rw [if_pos rfl]
          obtain ⟨⟨s', e1, _⟩, e2⟩ := k 0 s rfl hs
          simp at e1 e2
          subst e1 e2
          exact ih.cons₂ _
        | false =>
          rw [if_neg (by decide)]
          cases o with
          | none => exact ih
          | some s' => cases x with
            | none => exact ih
            | some u => exact ih.cons _
theorem INV.sub {K : PySem.W.Frag} {F : Fz} {R : List Root} {H : Hp} {A B : List Root} (h : A.Sublist B) : INV K F (B ++ R) H → INV K F (A ++ R) H := by
  induction h generalizing R with
  | slnil => exact id
  | cons r h ih => exact fun i => ih i.drop
  | cons_cons r h ih => exact fun i => (ih (R := r :: R) i.mid).unmid
theorem finals_length {n : Nat} {e : Env} : (finals n e).length = n := by unfold finals; simp
theorem cfOk_callAt (P : Prog) : ∀ n, CfOk (callAt P n)
  | 0 => fun f ss => trivial
  | n + 1 => fun f ss => by
    show (match callAt P (n + 1) f ss with | .ret _ _ ps => ps.length = ss.length | .exc _ _ ps => ps.length = ss.length | .stuck => True)
    rw [callAt]
    cases hf : P.fns[f]? with
    | none => trivial
    | some fn =>
      dsimp only
      by_cases hl : ss.length = fn.np
      · rw [if_pos hl]
        cases exSs P (callAt P n) none fn.body (ss.map some ++ List.replicate (fn.locals.length - fn.np) none) with
        | next e => exact finals_length.trans hl.symm
        | ret v d e => exact finals_length.trans hl.symm
        | exc c v e => exact finals_length.trans hl.symm
        | brk e => trivial
        | cnt e => trivial
        | stuck => trivial
      · rw [if_neg hl]; trivial

/-! ### what is known of the text and of what stands behind the top -/
section
variable (P : Prog) (prog : Program) (w : World) (K : PySem.W.Frag) (mg : Str → Option Value) (base : Heap) (ca : Nat → Addr) (F0 : Fz)
structure FnRow (fn : Fn) (a : Addr) (fd : FuncData) (ps : List Str) : Prop where
  ex : ∃ (qual : Str) (params : Arguments) (body : List Stmt) (sc : Scope), FunD K fn.name qual params body sc [] [] a fd ∧ FnScope fn.locals ps sc ∧ okSs P fn.locals sc fn.body body = true
  mg : mg fn.name = some (.ref a)
  bn : Binds K fd ps []
  np : ps.length = fn.np
structure ErrRow (c : Nat) (cl : Cl) : Prop where
  at_ : ∃ (fI : Addr) (fd : FuncData) (ps : List Str) (CXi : CXT), mg cl.name = some (.ref (ca c)) ∧ OexC K (ca c) ∧ PySem.W.findIn K (.ref (ca c)) "__init__" = some (some (.ref fI)) ∧ PySem.W.typeIn K (.ref fI) = some (.type "function") ∧
    FnOk prog w K mg base CXi 3 fI fd ps (spErr (ca c) cl.field) ∧ Binds K fd ps [] ∧ ∀ (Y : Cx) (E : Value → Shared → Prop), Passes CXi (Y.wish E) (fun _ _ _ => False)
structure Row : Prop where
  fns : ∀ (f : Nat) fn, P.fns[f]? = some fn → ∃ a fd ps, FnRow P K mg fn a fd ps
  glb : ∀ (g : Nat) x v, P.glbs[g]? = some (x, v) → ∃ u w, mg x = some u ∧ RelV w u ∧ Rep F0 v w
  blt : ∀ x ∈ bnames, mg x = none
  err : ∀ (c : Nat) cl, P.cls[c]? = some cl → cl.field ≠ noF → ErrRow prog w K mg base ca c cl
  clsN : ∀ (k : Nat) cl, P.cls[k]? = some cl → mg cl.name = some (.ref (ca k))
  kit : ∀ c k, c < P.cls.length → k < P.cls.length → PySem.W.kitOne K (.ref (ca c)) (.ref (ca k)) = some (isUp P c k)
  xi : ∀ c, c < P.cls.length → XcC K (ca c)
  vi : ∀ c, c < P.cls.length → PySem.W.kitOne K (.ref (ca c)) (.type "ValueError") = some true
  own : ∀ (c : Nat) cl, P.cls[c]? = some cl → cl.field = noF → OwnC K (ca c)
  exm : ∀ c k, c < P.cls.length → k < P.cls.length → PySem.W.exmOne K (.ref (ca c)) (.ref (ca k)) = some (isUp P c k)
  xf : ∀ c, c < P.cls.length → XfC K (ca c) ∧ PySem.W.findIn K (.ref (ca c)) (fldOf P c) = some none
/-- the bundle at a depth -/
def bd (n : Nat) (W : WX) : Bd := { P := P, cf := callAt P n, ca := ca, F0 := F0, K := K, hx := none, W := W, ea := 0 }
end
section
variable {P : Prog} {prog : Program} {w : World} {K : PySem.W.Frag} {mg : Str → Option Value} {base : Heap} {ca : Nat → Addr} {F0 : Fz}
theorem fn_ok (R : Row P prog w K mg base ca F0) : ∀ (n f : Nat) (fn : Fn) (a : Addr) (fd : FuncData) (ps : List Str) (W : WX), P.fns[f]? = some fn → FnRow P K mg fn a fd ps →
    FnOk prog w K mg base (L2N.CX prog w) (n + 5) a fd ps (spF (bd P K ca F0 n W) f)
  | 0, f, fn, a, fd, ps, W, hf, r => ⟨fun vs H Q E ⟨_, _, _, _, _, _, h⟩ => h.elim, fun A outer s H args us vs Q E _ _ _ _ ⟨_, _, _, _, _, _, h⟩ => h.elim⟩
  | n + 1, f, fn, a, fd, ps, W, hf, r => by
    obtain ⟨qual, params, body, sc, F, S, hok⟩ := r.ex
    have hcall : ∀ ss : List Slot, callAt P (n + 1) f ss = if ss.length = fn.np then finish fn.np (exSs P (callAt P n) none fn.body (ss.map some ++ List.replicate (fn.locals.length - fn.np) none)) else .stuck := fun ss => by
      rw [callAt, hf]
    have len : ∀ vs H Q E, spF (bd P K ca F0 (n + 1) W) f vs H Q E → vs.length = ps.length := fun vs H Q E ⟨F, T, ss, _, hl, _, h⟩ => by
      have h : (match callAt P (n + 1) f ss with | .ret v d ps => _ | .exc c x ps => _ | .stuck => False) := h
      rw [hcall] at h
      by_cases e : ss.length = fn.np
      · rw [← hl, e, r.np]
      · rw [if_neg e] at h; exact h.elim
    refine F.ok (k := n + 5) S len fun cdv A outer s H vs Q E hr hsp => ?_
    -- the frame
    have A' : Ss' (cxOf (L2N.CX prog w) prog w K mg base fn.locals qual sc a cdv A outer s H E) (bd P K ca F0 n fun cls d _ H => E cls d H) := {
      cs := {
        K := rfl
        nd := S.nd
        kind := S.kind
        un := Nat.lt_of_le_of_lt (by show (A.deeper (envOfC qual sc s.heap.objs.size a cdv)).units + 65 ≤ (A.deeper (envOfC qual sc s.heap.objs.size a cdv)).units + 16 * (n + 5) + 200; omega) hr.un
        glb := R.glb
        blt := R.blt
        tk := L2N.takes_of rfl rfl rfl rfl
        cf := cfOk_callAt P n
        cold := fun _ => rfl
        fns := fun _ g gn hg => by
          obtain ⟨a2, fd2, ps2, r2⟩ := R.fns g gn hg
          obtain ⟨_, _, _, _, F2, _, _⟩ := r2.ex
          exact ⟨n + 5, a2, fd2, ps2, r2.np, r2.mg, F2.kp, r2.bn, hr, fn_ok R n g gn a2 fd2 ps2 _ hg r2⟩
        hot := fun j c x h => by cases h
        clsN := R.clsN
        kit := R.kit
        xi := R.xi
        vi := R.vi
        own := R.own }
      tg := fun x hx => ⟨loc_of hx, .inl rfl⟩
      ps := fun _ => passes_of rfl
      stk := rfl
      frm := rfl
      err := fun _ c cl hc hf => by
        obtain ⟨fI, fdI, psI, CXi, h1, h2, h3, h4, h5, h6, h7⟩ := (R.err c cl hc hf).at_
        exact ⟨⟨fI, 3, fdI, psI, CXi, h1, h2, h3, h4, h5, hr.mono (by omega), h6, h7⟩⟩
      exm := R.exm
      xf := R.xf }
    refine ⟨_, sSs fn.body A' body hok, ?_⟩
    obtain ⟨F1, T, ss, le, hl, inv, h⟩ := hsp
    have h : (match callAt P (n + 1) f ss with
      | .ret v d ps => ∀ F' H' u, F1.le F' → INV K F' (⟨v, d, u⟩ :: (lentR ss ps vs ++ T)) H' → Q u H'
      | .exc c x ps => ∀ F' H' d vx, F1.le F' → INV K F' (lentR ss ps vs ++ T) H' → ExH P F' c d vx → Rep F' x vx → E (.ref (ca c)) d H'
      | .stuck => False) := h
    rw [hcall] at h
    by_cases e : ss.length = fn.np
    · rw [if_pos e] at h
      have hvl : vs.length = fn.np := hl ▸ e
      have hst : L2.start fn.locals vs = vs.map some ++ List.replicate (fn.locals.length - fn.np) none := by unfold L2.start; rw [hvl]
      have wf : WF (ss.map some ++ List.replicate (fn.locals.length - fn.np) none) (L2.start fn.locals vs) := by rw [hst]; exact wf_start hl
      have her : er (ss.map some ++ List.replicate (fn.locals.length - fn.np) none) (L2.start fn.locals vs) = argR ss vs := by rw [hst]; exact er_start _ _ hl
      -- the ends
      have lent : ∀ {env' : Env} {σ' : L2.St}, KeepS (ss.map some ++ List.replicate (fn.locals.length - fn.np) none) (L2.start fn.locals vs) env' σ' → (lentR ss (finals fn.np env') vs).Sublist (er env' σ') := fun {env' σ'} k => by
        rw [← e]
        refine lent_sub hl fun i s hs hls => ?_
        have hi := (List.getElem?_eq_some_iff.mp hs).1
        obtain ⟨h1, h2⟩ := k.keep i s (by rw [List.getElem?_append_left (by simpa using hi), List.getElem?_map, hs]; rfl) hls
        refine ⟨h1, ?_⟩
        rw [h2, hst, List.getElem?_append_left (by simpa using (hl ▸ hi)), List.getElem?_map]
      refine ⟨F1, _, T, ⟨⟨le, fun j c x z => (by cases z)⟩, fun j c x z => (by cases z), wf, (by rw [her]; exact inv)⟩, ?_⟩
      show poS _ _ _ T F1 _ (exSs P (callAt P n) none fn.body (ss.map some ++ List.replicate (fn.locals.length - fn.np) none))
      cases ho : exSs P (callAt P n) none fn.body (ss.map some ++ List.replicate (fn.locals.length - fn.np) none) with
      | next env' =>
        rw [ho] at h
        exact fun F' σ' H' l k w i => h F' H' .non l ((INV.sub (lent k) i).add0 (rep_non.mpr rfl))
      | ret v d env' =>
        rw [ho] at h
        exact fun F' σ' H' u l k w i => h F' H' u l (INV.unmid (INV.sub (lent k) i))
      | exc c x env' =>
        rw [ho] at h
        exact fun F' σ' H' d vx l k w i hd hr => h F' H' d vx l (INV.sub (lent k) i) hd hr
      | brk env' => rw [ho] at h; exact h.elim
      | cnt env' => rw [ho] at h; exact h.elim
      | stuck => rw [ho] at h; exact h.elim
    · rw [if_neg e] at h; exact h.elim
end
end MP
set_option Elab.async false
set_option linter.all false
set_option maxRecDepth 100000
set_option maxHeartbeats 4000000
/-! M16: an error class of one's own: __init__ says super().__init__('..'), then slf.f = x. -/
namespace MP
open PySem L2 PySem.Spec PyProof.Rows PySem.W

section
variable {prog : Program} {w : World} {M : Model} {A : Around} {E : Value → Shared → Prop} {h : Heap} {g : Array GenState} {d : Drawn} {t : Nat} {os : OsState}
/-- the bound ValueError.__init__ is called -/
theorem call_vw {nm q : Str} {C N u e t0 : Addr} {bs bm : List Value} {hdct : Bool} {sn : List Str} {sub : List Value} {ab : Bool} {col : Option Bool} {dd : Option Addr} {k0 k1 k2 k3 k5 : Option Value} {rest : List Value} {Q : Value → Shared → Prop}
    (hC : h.get? C = some (excClassObj nm q C N bs bm hdct sn sub ab col dd k0 k1 k2 k3 k5 "ValueError.__new__")) (he : h.get? e = some (HandSPX.excO C t0)) (hu : h.get? u = some (kxs_mw "ValueError.__init__" e)) (hrest : rest.length ≤ sizeLine)
    (hq : ∀ h' t1, (∀ b o, b ≠ e → h.get? b = some o → h'.get? b = some o) → h'.get? e = some (HandSPX.excO C t1) → Q .none ⟨h', g, d, t, os⟩) :
    wpAny (model prog w) A (call (.ref u) rest) Q E ⟨h, g, d, t, os⟩ := by
  refine wpAny_call (codeAny_of_tree ?_)
  show wpAny _ A.in1 (callAny (.ref u) ⟨rest, []⟩) _ _ _
  simp only [callAny]
  refine wpAny_bind (wpAny_load hu ?_)
  simp only [kxs_mw, show (Value.type "method-wrapper" == Value.type "method" || Value.type "method-wrapper" == Value.type "builtin_function_or_method" || Value.type "method-wrapper" == Value.type "method-wrapper") = true by decide, if_true]
  refine PySem.W.KFB.if_so (by decide) ?_
  refine wpAny_bind (check_bound_init F.excBase_ValueError.toExcCallFacts hC he rfl ?_)
  refine wpAny_bind (wpAny_pure (wpAny_pure ?_))
  refine ⟨Code.quiet_builtin _ (by decide +kernel), codeAny_builtin F.excBase_ValueError.initEntry ?_⟩
  rw [Around.under_plainId F.excBase_ValueError.init.plain _]
  wp_walk
  refine hq _ h.objs.size (fun b o hb ho => ?_) ?_
  · rw [Heap.get?_update_other _ _ (Ne.symm hb)]
    exact Heap.get?_push_of_some _ ho
  · rw [Heap.get?_update_self _ (Heap.get?_push_of_some _ he) rfl]
    rfl
end

/-! ### the text of such an __init__ -/
def initText (slf arg field : Str) : List Stmt → Bool
  | [.Expr (.Call (.Attribute (.Call (.Name su _) [] [] _) ini apos) [.Constant (.str _) _ _] [] cpos) _, .Assign [.Attribute (.Name sf _) f _] (.Name x _) _] =>
    decide (su = "super") && decide (ini = "__init__") && (apos.endLine == cpos.line) && decide (sf = slf) && decide (f = field) && decide (x = arg)
  | _ => false
theorem initText_eq {slf arg field : Str} {b : List Stmt} (h : initText slf arg field b = true) : ∃ p0 p1 apos txt k p2 cpos p3 p4 p5 p6 p7, (apos.endLine == cpos.line) = true ∧
    b = [.Expr (.Call (.Attribute (.Call (.Name "super" p0) [] [] p1) "__init__" apos) [.Constant (.str txt) k p2] [] cpos) p3, .Assign [.Attribute (.Name slf p4) field p5] (.Name arg p6) p7] := by
  unfold initText at h
  split at h
  · simp only [Bool.and_eq_true, decide_eq_true_eq] at h
    obtain ⟨⟨⟨⟨⟨rfl, rfl⟩, h3⟩, rfl⟩, rfl⟩, rfl⟩ := h
    exact ⟨_, _, _, _, _, _, _, _, _, _, _, _, h3, rfl⟩
  · cases h
/-- what is known of it behind the top -/
structure InitAt (prog : Program) (K : PySem.W.Frag) (mg : Str → Option Value) (C fI : Addr) (fd : FuncData) (slf arg field : Str) : Prop where
  fn : ∃ (name qual : Str) (params : Arguments) (body : List Stmt) (scope : Scope) (dV kV doc pm : Value) (an : Option Addr) (cda cc : Addr) (ct oc : Value) (od : Option Addr) (osl : Array (Option Value)) (ar : Arg) (ccl : Value) (cdd : Option Addr) (vs : Array Value) (ccs : Array (Option Value)) (file : Str) (tf : Tok) (cl : Value) (cld : Option Addr) (csl : Array (Option Value)),
    fd = fnX name qual params body scope [("__class__", cc)] dV kV doc pm an (.ref cda) ct ∧ K.lookup fI = some ⟨oc, od, .func fd, osl⟩ ∧ codeIn K (.ref cda) qual = true ∧ initText slf arg field body = true ∧
    NdefX.NScope [slf, arg, "__class__"] [slf, arg] ["__class__"] scope ∧ (params.posonlyargs ++ params.args).head? = some ar ∧ ar.arg = slf ∧
    K.lookup cda = some ⟨ccl, cdd, .fields vs, ccs⟩ ∧ vs[2]? = some (.str file tf) ∧ ((prog.main.file : Str) == file) = true ∧ K.lookup cc = some ⟨cl, cld, .cell (some (.ref C)), csl⟩ ∧
    scope.names.lookup ("super" : Str) = some .globalImplicit ∧ scope.names.lookup ("__class__" : Str) = some .free
  ty : typeIn K (.ref fI) = some (.type "function")
  bn : Binds K fd [slf, arg] []
  cls : OexC K C
  sub : mroIn K C (.ref C) = some true
  isE : subIn K (.ref C) (.type "ValueError") = some true
  sup : ks_superIn K C C "__init__" = some (some (.builtin "ValueError.__init__"))
  fld : findIn K (.ref C) field = some none
  supN : mg "super" = none
  opq : nsIn K cStatics "thirdparty.any" = some none
  top : (prog.main.scope.names.lookup ("super" : Str)).isSome = false
  dbg : (slf == ("__debug__" : Str)) = false ∧ (slf == ("__classdict__" : Str)) = false ∧ (arg == ("__debug__" : Str)) = false ∧ (arg == ("__classdict__" : Str)) = false
theorem boot_super : bootBuiltins "super" = some (.type "super") := by first | boot_by_name | rfl | kernel_rfl
section
variable {prog : Program} {w : World} {K : PySem.W.Frag} {mg : Str → Option Value} {base : Heap} {C fI : Addr} {fd : FuncData} {slf arg field : Str}
/-- super() within it -/
theorem super_at {X : Cx} {pins : List (Addr × Obj)} {σ : L2.St} {H : Hp} {s : Shared} (I : Inv X pins σ H s) {a cda cc : Addr} {body : List Stmt} {ar : Arg} {ofd : Obj} {p0 p1 : Pos} {whole : Sem Value} {oc : Obj} {vs : Array Value} {file : Str} {tf : Tok} {cl : Value} {cld : Option Addr} {csl : Array (Option Value)} {ox oD : Obj} {cdD : ClassData}
    {E : Value → Shared → Prop} {Q : Value → Shared → Prop}
    (hks : X.env.kindOf "super" = some .globalImplicit) (hkc : X.env.kindOf "__class__" = some .free) (hfu : X.env.func = some fI) (hf : s.heap.get? fI = some ofd) (hfd : ofd.data = .func fd) (hp : (fd.params.posonlyargs ++ fd.params.args).head? = some ar)
    (hco : X.env.code = .ref cda) (hcc : s.heap.get? cda = some oc) (hoc : oc.data = .fields vs) (hvs : vs[2]? = some (.str file tf)) (hfile : ((X.prog.main.file : Str) == file) = true) (htop : (X.prog.main.scope.names.lookup ("super" : Str)).isSome = false)
    (hm : X.mg "super" = none) (hcl : X.env.cells.lookup ("__class__" : Str) = some cc) (hcell : s.heap.get? cc = some ⟨cl, cld, .cell (some (.ref C)), csl⟩)
    (hD : s.heap.get? C = some oD) (hDt : oD.data = .cls cdD) (hN : X.N[0]? = some ar.arg) (hσ : σ[0]? = some (some (V.ref a))) (hl : X.env.kindOf ar.arg = some .local)
    (hx : s.heap.get? a = some ox) (hxc : ox.cls = .ref C) (hnc : ∀ c, ox.data ≠ .cls c) (hsub : Looks (model X.prog X.w) s.heap (isSubtype (.ref C) (.ref C)) true)
    (hq : ∀ h' so, h'.get? so = some { cls := .type "super", dict := none, data := .fields #[.ref C, .ref a, .ref C], slots := #[] } → (∀ y o, s.heap.get? y = some o → h'.get? y = some o) → Q (.ref so) { s with heap := h' }) :
    _root_.PySem.wpAt (model X.prog X.w) X.A (.func body X.env) (attributeBase (.Call (.Name "super" p0) [] [] p1) "__init__" X.env whole) Q E s := by
  obtain ⟨mb, hb1, hb2⟩ := I.mod.blt
  obtain ⟨m, hn, hloc⟩ := I.loc
  obtain ⟨u, ru, hlook⟩ := hloc 0 ar.arg (.ref a) hN hσ (.inl hl)
  obtain rfl : u = .ref a := ru
  have hmv : m ar.arg = some (.ref a) := by
    rcases hlook with ⟨_, e⟩ | ⟨e, _⟩
    · exact e
    · rw [hl] at e; rcases e with e | e <;> cases e
  refine ks_wpAt_super_base hks hkc (by decide) hfu hf hfd hp hco hcc hoc hvs hfile htop ?_
  refine ks_loadName_global I.ok.kind hks (Calls.loadGlobal_builtin (by rw [I.ok.glob]; exact I.mod.glob.keeps I.bk) hm (by rw [I.ok.blt]; exact hb1.keeps I.bk) ((hb2 _ (by decide)).trans boot_super) ⟨rfl, ?_⟩)
  refine wpAny_loadName_free I.ok.kind hkc hcl ⟨_, hcell, rfl⟩ ?_
  refine wpAny_loadName_local I.ok.kind hl hn hmv ?_
  obtain ⟨hp', g, d, t, os⟩ := s
  refine ks_wpAny_isType_cls hD hDt ⟨rfl, ?_⟩
  exact ks_wpAny_call_super hD hDt hx hxc hnc hsub fun h' e k => hq h' _ e k
theorem init_ok (D : InitAt prog K mg C fI fd slf arg field) : FnOk prog w K mg base CX0 3 fI fd [slf, arg] (spErr C field) := by
  refine ⟨fun vs H Q E ⟨a, v, e, _⟩ => by rw [e]; rfl, fun A outer s H args us vs Q E hr e0 hb r hsp => ?_⟩
  obtain ⟨name, qual, params, body, scope, dV, kV, doc, pm, an, cda, cc, ct, oc, od, osl, ar, ccl, cdd, cvs, ccs, file, tf, cl, cld, csl, rfl, lk, hcd, htext, S, hp, har, lcode, hvs, hfile, lcell, hks, hkc⟩ := D.fn
  obtain ⟨a, v, rfl, ha, hq⟩ := hsp
  obtain ⟨d1, d2, d3, d4⟩ := D.dbg
  obtain ⟨p0, p1, apos, txt, kk, p2, cpos, p3, p4, p5, p6, p7, hline, rfl⟩ := initText_eq htext
  have KX : K.In s.heap := e0.mod.kin.keeps fun b o e => (e0.bs b o e).1
  have lim : s.heap.NoLimit := e0.mod.nolimit.keeps fun b o e => (e0.bs b o e).1
  have noH : ∀ b o, K.lookup b = some o → H b = none := fun b o e => (e0.bs b o (e0.mod.kin b o e)).2
  let F : NdefX.NF := ⟨name, qual, params, [.Expr (.Call (.Attribute (.Call (.Name "super" p0) [] [] p1) "__init__" apos) [.Constant (.str txt) kk p2] [] cpos) p3, .Assign [.Attribute (.Name slf p4) field p5] (.Name arg p6) p7], scope, [("__class__", cc)], cda⟩
  have CA : NdefX.CellsAt F.cl ["__class__"] [some (V.ref C)] s.heap H := by
    have look : ∀ y c, F.cl.lookup y = some c → y = "__class__" ∧ c = cc := fun y c e => by
      have e : (match y == ("__class__" : Str) with | true => some cc | false => none) = some c := e
      cases q : y == ("__class__" : Str) with
      | true => rw [q] at e; cases e; exact ⟨beq_iff_eq.mp q, rfl⟩
      | false => rw [q] at e; cases e
    refine ⟨rfl, fun y c e => ?_, fun x y c e1 e2 => ?_, fun i y hi => ?_⟩
    · obtain ⟨_, rfl⟩ := look y c e
      exact ⟨noH _ _ lcell, _, _, KX _ _ lcell, rfl⟩
    · rw [(look x c e1).1, (look y c e2).1]
    · cases i with
      | zero =>
        simp at hi
        subst hi
        exact ⟨cc, by rfl, fun v hv => by simp at hv; subst hv; exact ⟨.ref C, rfl, _, KX _ _ lcell, rfl⟩⟩
      | succ i => simp at hi
  refine codeAny_call_function hr.depth (KX _ _ lk) rfl S.co S.gen rfl (codeRec_of KX hcd) (hb _ _ _ _ ?_)
  refine wpAny_newFunctionEnv S.nocell (fun ⟨n, _⟩ hy => S.par n (List.of_mem_zip hy).1) (fun h₁ hns hsb => ⟨lim.fresh _ hsb, ?_⟩) S.kind
  show codeAny _ _ (.func F.body (NdefX.envF F fI s.heap.objs.size)) _ _
  refine ks_codeAny_funcAt ?_
  have kp : ∀ b o, s.heap.get? b = some o → h₁.get? b = some o := fun b o e => hsb.extBut b o (Nat.ne_of_lt (Heap.lt_size e)) (Heap.get?_push_of_some _ e)
  have I : Inv (NdefX.ncx CX0 prog w K mg base [slf, arg, "__class__"] F fI A outer s H E) [] (NdefX.startF [slf, arg, "__class__"] [.ref a, v] [some (V.ref C)]) H { s with heap := h₁, toks := s.toks + ([slf, arg].zip us).length } := NdefX.inv_startN S hr.hd e0 rfl r CA hns kp
  have KX1 : K.In h₁ := KX.keeps kp
  -- what the class is
  obtain ⟨nm, q, N, bs, bm, sn, sub, ab, col, dd, k0, k1, k2, k3, k5, hC, hbm⟩ := D.cls.cls
  have hCn : H C = none := noH _ _ hC
  have haC : a ≠ C := fun z => by rw [z, hCn] at ha; cases ha
  have hcl : clsIn K C = some { name := nm, bases := bs, mro := .ref C :: bm, ns := N, qualname := q, hasDict := true, slotNames := sn, subclasses := sub, abstract := ab, collection := col, hasDel := false } := by unfold clsIn; rw [hC] <;> rfl
  have hsup := D.sup
  unfold ks_superIn at hsup
  rw [hcl] at hsup
  obtain ⟨t1, hoe⟩ := exo_at I.hok ha
  refine ks_wpAt_execs_cons ?_
  refine ks_wpAt_Expr_any ?_ I.quiet (by rfl)
  rw [arm_eval_Call]
  refine _root_.PySem.wpAt_bind ?_
  refine super_at (X := NdefX.ncx CX0 prog w K mg base [slf, arg, "__class__"] F fI A outer s H E) I (a := a) hks hkc rfl (KX1 _ _ lk) rfl hp rfl (KX1 _ _ lcode) rfl hvs hfile D.top D.supN rfl (KX1 _ _ lcell) (KX1 _ _ hC) rfl (by rw [har]; rfl) rfl (by rw [har]; exact S.par slf (by simp)) hoe rfl (fun c z => by cases z) (looks_mroIn KX1 D.sub) fun h2 so hso k2 => ?_
  have I2 : Inv (NdefX.ncx CX0 prog w K mg base [slf, arg, "__class__"] F fI A outer s H E) [] (NdefX.startF [slf, arg, "__class__"] [.ref a, v] [some (V.ref C)]) H { s with heap := h2, toks := s.toks + ([slf, arg].zip us).length } := I.kept k2
  have KX2 : K.In h2 := KX1.keeps k2
  refine _root_.PySem.wpAt_of_wpAny (wpAny_bind (wpAny_standAt ?_))
  have hform : methodCallForm (([.Constant (.str txt) kk p2] : List Expr).length + ([] : List Keyword).length) (backTo cpos (starEach [.Constant (.str txt) kk p2] (NdefX.envF F fI s.heap.objs.size))) (backToKw cpos (keywordEach [] (NdefX.envF F fI s.heap.objs.size))) = true := rfl
  have hpos : ∀ o : Expr, methodCallPos true o (NdefX.envF F fI s.heap.objs.size) apos cpos = pure cpos := fun o => by unfold methodCallPos; simp [hline]
  show wpAny _ _ (methodCall _ _ apos cpos (NdefX.envF F fI s.heap.objs.size) (.ref so) (([.Constant (.str txt) kk p2] : List Expr).length + ([] : List Keyword).length) (backTo cpos (starEach [.Constant (.str txt) kk p2] (NdefX.envF F fI s.heap.objs.size))) (backToKw cpos (keywordEach [] (NdefX.envF F fI s.heap.objs.size)))) _ _ _
  unfold methodCall
  rw [hform]
  obtain ⟨t2, hoe2⟩ := exo_at I2.hok ha
  have IA : InstAt h2 a ({ cls := .ref C, dict := none, data := .fields #[.ref t2, .none, .none, .none, .bool false, .none] } : Obj) C none := ⟨hoe2, rfl, rfl, trivial⟩
  refine wpAny_bind (wpAny_holding (kxs_getMethod kxs_ValueError hso (looks_opaque KX2 D.opq) (l₀ := .ref C :: bm) (fun A Q E s k q => wpAny_bind ((looks_clsIn KX2 hcl) A _ E s k (wpAny_pure q))) rfl KX2 hsup (IA.type.andThen (looks_subIn KX2 D.isE)) haC (by decide) ?_))
  refine wpAny_bind (wpAny_of_eq (hpos _) ?_)
  let X : Cx := NdefX.ncx CX0 prog w K mg base [slf, arg, "__class__"] F fI A outer s H E
  have I3 : Inv X [] (NdefX.startF [slf, arg, "__class__"] [.ref a, v] [some (V.ref C)]) H { s with heap := h2.push (kxs_mw "ValueError.__init__" a), toks := s.toks + ([slf, arg].zip us).length + 1 } := I2.kept fun b o e => Heap.get?_push_of_some _ e
  have I4 : Inv X [(h2.objs.size, kxs_mw "ValueError.__init__" a)] (NdefX.startF [slf, arg, "__class__"] [.ref a, v] [some (V.ref C)]) H { s with heap := h2.push (kxs_mw "ValueError.__init__" a), toks := s.toks + ([slf, arg].zip us).length + 1 } :=
    I3.pins_of fun p hp => by
      obtain rfl : p = (h2.objs.size, kxs_mw "ValueError.__init__" a) := by simpa using hp
      exact ⟨Heap.get?_push_size _ rfl, I2.hok.fresh (Nat.le_refl _), fun z => absurd I2.lt (by rw [← z]; exact Nat.lt_irrefl _), I2.nofs (Nat.le_refl _), fun v z => by cases z⟩
  refine kxs_callWith (i := "ValueError.__init__") (x := a) rfl (Calls.evalArgs_plain ?_)
  refine thn ((pa_cons (X := X) (pe_str (x := txt) (j := kk) (pos := p2)) pa_nil rfl).run cpos _ _ _ H (fun vs H1 => vs = [.str txt] ∧ H1 = H) I4 ⟨rfl, rfl⟩) fun us1 s1 ⟨vs1, H1, I5, r1, e1, e2⟩ => ?_
  subst e1 e2
  obtain ⟨hp1, g1, dr1, tk1, os1⟩ := s1
  have hpin := I5.pin (h2.objs.size, kxs_mw "ValueError.__init__" a) (List.mem_append_right _ List.mem_cons_self)
  obtain ⟨t5, hoe5⟩ := exo_at I5.hok ha
  refine ⟨hpin.1, call_vw (I5.kIn _ _ hC) hoe5 hpin.1 ?_ fun h' t6 k6 he6 => ?_⟩
  · show ([] ++ us1).length ≤ sizeLine
    rw [List.nil_append, ← Paired.length r1, sizeLine_eq]
    show 1 ≤ _
    decide
  have J := I5.write (t' := tk1) (x := a) (e := a) (o := exo a C none) (by rw [ha]; exact True.intro) (.inl rfl) k6 ⟨_, he6⟩ (exo_ok he6)
  have eu : upd H1 a (exo a C none) = H1 := by
    funext b
    by_cases hb : b = a
    · rw [hb, upd_same, ha]
    · rw [upd_ne hb]
  rw [eu] at J
  have J0 : Inv X [] (NdefX.startF [slf, arg, "__class__"] [.ref a, v] [some (V.ref C)]) H1 { heap := h', gens := g1, drawn := dr1, toks := tk1, os := os1 } := J.pins_of fun p hp => absurd hp (by simp)
  -- self.f = x
  show _root_.PySem.wpAt _ _ _ (execs [.Assign [.Attribute (.Name slf p4) field p5] (.Name arg p6) p7] X.env) _ _ _
  refine _root_.PySem.wpAt_of_wpAny ?_
  have body : PSs X [.Assign [.Attribute (.Name slf p4) field p5] (.Name arg p6) p7] (tOst X.K field (tVar 0) (tVar 1)) :=
    pss_one (ps_ost (pe_var (i := 0) rfl (.inl (S.par slf (by simp))) d1 d2) (pe_var (i := 1) rfl (.inl (S.par arg (by simp))) d3 d4) (by rfl))
  refine wpAny_mono (body.run [] _ _ H1 { nx := fun _ H' => Q .non H', rt := Q } J0 ⟨v, rfl, .ref a, rfl, a, C, rfl, D.cls, D.fld, .inl ⟨ha, fun dx n ne => hq dx n ne⟩⟩) (fun fl s' hs => ?_) fun e s' hs => hs
  cases fl with
  | ret u =>
    obtain ⟨v, σ', H', J, rv, q⟩ := hs
    exact ⟨v, H', J.os, J.bare, J.base, J.hok, rv, q⟩
  | next =>
    obtain ⟨σ', H', J, q⟩ := hs
    exact ⟨V.non, H', J.os, J.bare, J.base, J.hok, rfl, q⟩
  | brk =>
    obtain ⟨_, _, _, q⟩ := hs
    exact False.elim q
  | cont =>
    obtain ⟨_, _, _, q⟩ := hs
    exact False.elim q
end
end MP
set_option Elab.async false
set_option linter.all false
set_option maxRecDepth 100000
set_option maxHeartbeats 4000000
/-! M17: what is asked of the heap behind the top; a law's end. -/
namespace MP
open PySem L2 PySem.Spec PyProof.Rows PySem.W

/-! ### binding plain parameters -/
def plainPs (p : Arguments) : Bool := p.posonlyargs.isEmpty && p.vararg.isNone && p.kwonlyargs.isEmpty && p.kwarg.isNone
theorem zip_lookup : ∀ {ps : List Str} {us : List Value} {x : Str}, us.length = ps.length → x ∈ ps → ((ps.zip us).lookup x).isSome = true
  | [], _, _, _, h => by cases h
  | p :: ps, [], _, h, _ => by simp at h
  | p :: ps, u :: us, x, h, hx => by
    show (match x == p with | true => some u | false => (ps.zip us).lookup x).isSome = true
    cases e : x == p with
    | true => rfl
    | false =>
      rcases List.mem_cons.mp hx with z | z
      · rw [z] at e; simp at e
      · exact zip_lookup (by simpa using h) z
theorem fm_congr {α β : Type} {f g : α → Option β} : ∀ {l : List α}, (∀ x ∈ l, f x = g x) → l.filterMap f = l.filterMap g
  | [], _ => rfl
  | a :: l, h => by
    rw [List.filterMap_cons, List.filterMap_cons, h a List.mem_cons_self, fm_congr fun x hx => h x (List.mem_cons_of_mem _ hx)]
theorem zip_binds : ∀ {ps : List Str} {us : List Value}, ps.Nodup → us.length = ps.length → ps.filterMap (fun n => ((ps.zip us).lookup n).map (n, ·)) = ps.zip us
  | [], _, _, _ => rfl
  | p :: ps, [], _, h => by simp at h
  | p :: ps, u :: us, nd, h => by
    obtain ⟨n1, n2⟩ := List.nodup_cons.mp nd
    have e1 : ((p :: ps).zip (u :: us)).lookup p = some u := by simp [List.lookup]
    rw [List.filterMap_cons, e1]
    show (p, u) :: _ = (p, u) :: ps.zip us
    congr 1
    rw [← zip_binds n2 (by simpa using h : us.length = ps.length)]
    refine fm_congr fun x hx => ?_
    have : (x == p) = false := by
      cases e : x == p with
      | false => rfl
      | true => exact absurd (beq_iff_eq.mp e ▸ hx) n1
    show ((match x == p with | true => some u | false => (ps.zip us).lookup x).map (x, ·)) = _
    rw [this]
theorem bind_plain {fd : FuncData} {us : List Value} (h : plainPs fd.params = true) (hd : fd.defaults = .none) (nd : (fd.params.args.map (·.arg)).Nodup) (hl : us.length = (fd.params.args.map (·.arg)).length) :
    bindArgs fd ⟨us, []⟩ = pure ((fd.params.args.map (·.arg)).zip us) := by
  unfold plainPs at h
  simp only [Bool.and_eq_true, List.isEmpty_iff, Option.isNone_iff_eq_none] at h
  obtain ⟨⟨⟨h1, h2⟩, h3⟩, h4⟩ := h
  obtain ⟨nm, qn, p, body, sc, gl, cl, df, kd, doc, pm, an, cd, ct, bt⟩ := fd
  obtain ⟨po, ar, va, ko, kdf, kw, dfs⟩ := p
  dsimp only at h1 h2 h3 h4 hd nd hl
  subst h1 h2 h3 h4 hd
  have hs : seqItems? .none = (pure none : Sem (Option (Array Value))) := rfl
  have hmiss : (List.filter (fun n => (List.lookup n ((ar.map (·.arg)).zip us)).isNone) (ar.map (·.arg))) = [] := by
    rw [List.filter_eq_nil_iff]
    intro x hx
    have := zip_lookup hl hx
    cases e : List.lookup x ((ar.map (·.arg)).zip us) with
    | none => rw [e] at this; cases this
    | some v => simp
  unfold bindArgs
  simp only [hs, List.map_nil, List.nil_append, List.append_nil, List.forIn_nil, pure_bind, Option.getD_none, Array.toList_empty, List.drop_nil, List.length_nil, Nat.sub_zero, List.take_length, List.drop_length, List.zip_nil_right, List.zip_nil_left, hl, hmiss, Nat.lt_irrefl, decide_false, Bool.false_and, Bool.false_eq_true, if_false, List.isEmpty_nil, Bool.not_true, gt_iff_lt, zip_binds nd hl]
  first | done | rfl | trace_state

/-! ### what is asked of K -/
open He (ga ma Fa DefD Dv)
def caOf (P : Prog) (K : Frag) (c : Nat) : Addr := ga K ((P.cls[c]?.map (·.name)).getD (Str.ofString ""))
/-- the __init__ of a class of errors: its file, its parameters -/
def initArgs (fd : FuncData) : Option (Str × Str) := match fd.params.args with
  | [a, b] => some (a.arg, b.arg)
  | _ => none
def codeFile (K : Frag) (cd : Value) : Option Str := match cd with
  | .ref a => (match K.lookup a with
    | some ⟨_, _, .fields vs, _⟩ => (match (vs[2]? : Option Value) with
      | some (.str f _) => some f
      | _ => none)
    | _ => none)
  | _ => none
def cellOf (K : Frag) (c : Addr) : Option Addr := match K.lookup c with
  | some ⟨_, _, .cell (some (.ref C)), _⟩ => some C
  | _ => none
def initB (prog : Program) (K : Frag) (C : Addr) (field : Str) (fd : FuncData) : Bool := match fd.params.args, fd.body, fd.closure, fd.defaults with
  | [a, b], .stmts body, [(x, cc)], .none => decide (x = "__class__") && initText a.arg b.arg field body && NdefX.nscB [a.arg, b.arg, "__class__"] [a.arg, b.arg] ["__class__"] fd.scope && plainPs fd.params &&
      decide (fd.globals = mainGlobals) && decide (fd.builtins = builtinsNs) && decide (codeFile K fd.code = some prog.main.file) && decide (cellOf K cc = some C) && codeIn K fd.code fd.qualname &&
      decide (fd.scope.names.lookup ("super" : Str) = some .globalImplicit) && dbg a.arg && dbg b.arg
  | _, _, _, _ => false
def oexB (K : Frag) (C : Addr) : Bool := (match K.lookup C with
    | some ⟨.type t, _, .cls cd, sl⟩ => (match cd.mro, sl.toList with
      | .ref C' :: bm, [_, _, _, _, some (.builtin n), _] => decide (t = "type") && decide (C' = C) && decide (n = "ValueError.__new__") && !cd.hasDel && cd.hasDict && HandSPX.refsVE bm
      | _, _ => false)
    | _ => false) && decide (findIn K (.ref C) "__setattr__" = some (some (.builtin "object.__setattr__"))) && decide (subIn K (.ref C) (.type "BaseException") = some true) && decide (typeIn K (.ref C) = some (.type "type")) && keepIn K (.ref C)
def xcB (K : Frag) (D : Addr) : Bool := (clsIn K D).isSome && decide (findIn K (.ref D) "__getattribute__" = some (some (.builtin "BaseException.__getattribute__"))) && decide (findIn K (.ref D) "__getattr__" = some none) && decide (subIn K (.ref D) (.type "BaseException") = some true) &&
  decide (findIn K (.ref D) "__class__" = some (some (.builtin "object.__class__"))) && decide (specialIn K (.builtin "object.__class__") "__get__" = some (some (.builtin "getset_descriptor.__get__"))) && decide (takesIn K (.builtin "object.__class__") = some true) && decide (mroIn K D (.type "object") = some true)
theorem xc_of {K : Frag} {D : Addr} (h : xcB K D = true) : XcC K D := by
  unfold xcB at h
  simp only [Bool.and_eq_true, decide_eq_true_eq] at h
  obtain ⟨⟨⟨⟨⟨⟨⟨h1, h2⟩, h3⟩, h4⟩, h5⟩, h6⟩, h7⟩, h8⟩ := h
  exact ⟨h1, h2, h3, h4, h5, h6, h7, h8⟩
def errI (prog : Program) (K : Frag) (cl : Cl) : Bool := decide (findIn K (.ref (ga K cl.name)) "__init__" = some (some (.ref (ma K (ga K cl.name) "__init__")))) && decide (typeIn K (.ref (ma K (ga K cl.name) "__init__")) = some (.type "function")) &&
  decide (mroIn K (ga K cl.name) (.ref (ga K cl.name)) = some true) && decide (subIn K (.ref (ga K cl.name)) (.type "ValueError") = some true) && decide (ks_superIn K (ga K cl.name) (ga K cl.name) "__init__" = some (some (.builtin "ValueError.__init__"))) &&
  (match K.lookup (ma K (ga K cl.name) "__init__") with
    | some ⟨_, _, .func fd, _⟩ => initB prog K (ga K cl.name) cl.field fd
    | _ => false)
def ownB (K : Frag) (C : Addr) : Bool := excIn K C [.type "ValueError", .type "Exception", .type "BaseException", .type "object"] "ValueError.__new__" && keepIn K (.ref C) && decide (subIn K (.ref C) (.type "BaseException") = some true) && decide (typeIn K (.ref C) = some (.type "type"))
theorem own_of {K : Frag} {C : Addr} (h : ownB K C = true) : OwnC K C := by
  unfold ownB at h
  simp only [Bool.and_eq_true, decide_eq_true_eq] at h
  obtain ⟨⟨⟨h1, h2⟩, h3⟩, h4⟩ := h
  exact ⟨h1, h2, h3, h4⟩
def errB (prog : Program) (K : Frag) (cl : Cl) : Bool := (Fa.glo cl.name).ok K && oexB K (ga K cl.name) && xfB K (ga K cl.name) && decide (findIn K (.ref (ga K cl.name)) cl.field = some none) && xcB K (ga K cl.name) && decide (kitOne K (.ref (ga K cl.name)) (.type "ValueError") = some true) && (if cl.field = noF then ownB K (ga K cl.name) else errI prog K cl)
def glbB (K : Frag) : Str × PV → Bool
  | (x, .int i) => (Fa.int x i).ok K
  | (x, .str z) => (Fa.str x z).ok K
  | (x, .scr ns) => (Fa.glo x).ok K && He.lstB K x (ns.map Dv.int)
  | _ => false
def exB (P : Prog) (prog : Program) (K : Frag) : Bool := P.fns.all (fun fn => (Fa.glo fn.name).ok K) && P.glbs.all (glbB K) && bnames.all (fun x => (Fa.free x).ok K) && (Fa.free "super").ok K && decide (nsIn K cStatics "thirdparty.any" = some none) &&
  P.cls.all (errB prog K) && (List.range P.cls.length).all fun c => (List.range P.cls.length).all fun k => decide (exmOne K (.ref (caOf P K c)) (.ref (caOf P K k)) = some (isUp P c k)) && decide (kitOne K (.ref (caOf P K c)) (.ref (caOf P K k)) = some (isUp P c k))
/-! ### the Hook -/
abbrev AlM : Type := He.AlD × Bool
def frM (n : Nat) (g : Addr → Option Obj) : Frag := He.frG g (cStatics :: He.asD g n)
def obsM (n : Nat) (fn : List DefD) (ex : Frag → Bool) (g : Addr → Option Obj) : AlM := (He.obsD [] fn (frM n g), ex (frM n g))
def hookM (n : Nat) (fn : List DefD) (ex : Frag → Bool) : PySem.W.Hook where
  α := AlM
  obs := fun s => obsM n fn ex s.heap.get?
  val := fun _ => (He.valD fn, true)
  says := fun _ h => ∃ K : PySem.W.Frag, K.In h ∧ He.SaysD [] fn K ∧ ex K = true
  of := fun _ _ e => ⟨_, He.frG_in, congrArg (fun z : AlM => z.1) e, congrArg (fun z : AlM => z.2) e⟩
  keeps := fun _ _ _ ⟨K, hK, c⟩ k => ⟨K, PySem.W.Frag.In.keeps hK k, c⟩
theorem obsM_eq {n : Nat} {fn : List DefD} {ex : Frag → Bool} {g : Addr → Option Obj} {s : Shared} (h : ∀ a, g a = s.heap.get? a) : obsM n fn ex g = (hookM n fn ex).obs s := by
  have e : g = s.heap.get? := funext h
  rw [e] <;> rfl
/-! ### the text's side -/
def scB (N ps : List Str) (sc : Scope) : Bool := decide (sc.kind = .function) && !sc.isCoroutine && !sc.isGenerator && decide N.Nodup && decide (N.take ps.length = ps) && ps.all (fun x => decide (sc.names.lookup x = some .local) || decide (sc.names.lookup x = some .cell)) && sc.names.all (fun y => decide (y.2 ≠ .free))
theorem sc_of {N ps : List Str} {sc : Scope} (h : scB N ps sc = true) : FnScope N ps sc := by
  unfold scB at h
  simp only [Bool.and_eq_true, Bool.not_eq_true', decide_eq_true_eq, List.all_eq_true, Bool.or_eq_true] at h
  obtain ⟨⟨⟨⟨⟨⟨h1, h2⟩, h3⟩, h4⟩, h5⟩, h6⟩, h7⟩ := h
  exact ⟨h1, h2, h3, h4, h5, h6, h7⟩
def fnB (P : Prog) (fn : Fn) (d : DefD) : Bool := decide (d.name = fn.name) && decide (d.at_ = (fn.name, none)) && d.dfl.isEmpty && d.kwd.isEmpty && plainPs d.params && decide (d.params.args.map (·.arg) = fn.locals.take fn.np) &&
  decide (fn.np ≤ fn.locals.length) && scB fn.locals (fn.locals.take fn.np) d.scope && okSs P fn.locals d.scope fn.body d.body
def fnsB (P : Prog) : List Fn → List DefD → Bool
  | [], [] => true
  | fn :: fs, d :: ds => fnB P fn d && fnsB P fs ds
  | _, _ => false
/-- a def of the row -/
def defOfS (st : Stmt) : DefD := match st with
  | .FunctionDef n a b _ _ _ sc _ _ _ => ⟨(n, none), n, n, a, b, sc, [], []⟩
  | _ => ⟨("", none), "", "", { posonlyargs := [], args := [], vararg := none, kwonlyargs := [], kw_defaults := [], kwarg := none, defaults := [] }, [], { kind := .function, names := [], isGenerator := false, isCoroutine := false }, [], []⟩
theorem fnsB_at {P : Prog} : ∀ {fs : List Fn} {ds : List DefD} {f : Nat} {fn : Fn}, fnsB P fs ds = true → fs[f]? = some fn → ∃ d, ds[f]? = some d ∧ fnB P fn d = true
  | [], _, _, _, _, h => by simp at h
  | _ :: _, [], _, _, h, _ => by cases h
  | g :: fs, d :: ds, f, fn, h, hf => by
    obtain ⟨h1, h2⟩ := Bool.and_eq_true_iff.mp h
    cases f with
    | zero => simp at hf; subst hf; exact ⟨d, rfl, h1⟩
    | succ f => exact fnsB_at (f := f) h2 (by simpa using hf)
section
variable {P : Prog} {prog : Program} {w : World} {K : Frag} {mg : Str → Option Value} {base : Heap} {ds : List DefD}
theorem fnRow_of (X : K.In base) (G : base.Ns mainGlobals mg) (c : He.SaysD [] ds K) (e : exB P prog K = true) (hs : fnsB P P.fns ds = true) {f : Nat} {fn : Fn} (hf : P.fns[f]? = some fn) :
    ∃ fd, FnRow P K mg fn (ga K fn.name) fd (fn.locals.take fn.np) ∧ ∀ (s : Shared) (us : List Value), us.length = fn.np → BindsTo s fd ⟨us, []⟩ ((fn.locals.take fn.np).zip us) := by
  obtain ⟨d, hd, h⟩ := fnsB_at hs hf
  unfold fnB at h
  simp only [Bool.and_eq_true, decide_eq_true_eq, List.isEmpty_iff] at h
  obtain ⟨⟨⟨⟨⟨⟨⟨⟨h1, h2⟩, h3⟩, h4⟩, h5⟩, h6⟩, h7⟩, h8⟩, h9⟩ := h
  obtain ⟨fd, F⟩ := c.def_ f hd
  obtain ⟨at', name, qual, params, body, scope, dfl, kwd⟩ := d
  dsimp only at h1 h2 h3 h4 h5 h6 h8 h9 F
  subst h1 h2 h3 h4
  have F : FunD K fn.name qual params body scope [] [] (ga K fn.name) fd := F
  have S := sc_of h8
  have nd : (params.args.map (·.arg)).Nodup := by rw [h6]; exact S.nd.sublist (List.take_sublist _ _)
  have np : (fn.locals.take fn.np).length = fn.np := by rw [List.length_take]; omega
  have bn : ∀ (kV doc pm : Value) (an : Option Addr) (cdv ct : Value) (us : List Value), us.length = (fn.locals.take fn.np).length → bindArgs (PySem.W.fnOf fn.name qual params body scope .none kV doc pm an cdv ct) ⟨us, []⟩ = pure ((fn.locals.take fn.np).zip us) := fun kV doc pm an cdv ct us hl => by
    rw [← h6] at hl ⊢
    exact bind_plain (fd := PySem.W.fnOf fn.name qual params body scope .none kV doc pm an cdv ct) h5 rfl nd hl
  have hg : (Fa.glo fn.name).ok K = true := by
    unfold exB at e
    simp only [Bool.and_eq_true] at e
    exact List.all_eq_true.mp e.1.1.1.1.1.1 fn (List.mem_of_getElem? hf)
  exact ⟨fd, ⟨⟨qual, params, body, scope, F, S, h9⟩, He.glo_ok X G hg, F.bindsN bn, np⟩, fun s us hl => F.bindsA bn s us (hl.trans np.symm)⟩
theorem oex_of {C : Addr} (h : oexB K C = true) : OexC K C := by
  unfold oexB at h
  simp only [Bool.and_eq_true, decide_eq_true_eq] at h
  obtain ⟨⟨⟨⟨h1, h2⟩, h3⟩, h4⟩, h5⟩ := h
  refine ⟨?_, h2, h3, h4, h5⟩
  split at h1
  · rename_i t dd cd sl ho
    split at h1
    · rename_i C' bm k0 k1 k2 k3 n k5 hm hsl
      simp only [Bool.and_eq_true, decide_eq_true_eq, Bool.not_eq_true'] at h1
      obtain ⟨⟨⟨⟨⟨rfl, rfl⟩, rfl⟩, hdel⟩, hdict⟩, hve⟩ := h1
      obtain ⟨nm, bs, mro, ns, qn, hd, sn, sub, ab, col, del⟩ := cd
      dsimp only at hm hdel hdict
      subst hm hdel hdict
      have hsl' : sl = #[k0, k1, k2, k3, some (.builtin "ValueError.__new__"), k5] := by
        obtain ⟨l⟩ := sl
        simp only at hsl
        rw [hsl]
      subst hsl'
      exact ⟨nm, qn, ns, bs, bm, sn, sub, ab, col, dd, k0, k1, k2, k3, k5, ho, hve⟩
    · cases h1
  · cases h1
theorem codeFile_of {cd : Value} {f : Str} (h : codeFile K cd = some f) : ∃ a cl dd vs sl tf, cd = .ref a ∧ K.lookup a = some ⟨cl, dd, .fields vs, sl⟩ ∧ vs[2]? = some (.str f tf) := by
  unfold codeFile at h
  split at h
  · rename_i a
    split at h
    · rename_i cl dd vs sl ho
      split at h
      · rename_i f' tf hv
        cases h
        exact ⟨a, cl, dd, vs, sl, tf, rfl, ho, hv⟩
      · cases h
    · cases h
  · cases h
theorem cellOf_of {c C : Addr} (h : cellOf K c = some C) : ∃ cl dd sl, K.lookup c = some ⟨cl, dd, .cell (some (.ref C)), sl⟩ := by
  unfold cellOf at h
  split at h
  · rename_i cl dd C' sl ho
    cases h
    exact ⟨cl, dd, sl, ho⟩
  · cases h
theorem errRow_of (X : K.In base) (G : base.Ns mainGlobals mg) (hsup : mg "super" = none) (hopq : nsIn K cStatics "thirdparty.any" = some none) (htop : (prog.main.scope.names.lookup ("super" : Str)).isSome = false) {cl : Cl} {c : Nat} (hc : P.cls[c]? = some cl) (h : errB prog K cl = true) :
    (cl.field ≠ noF → ErrRow prog w K mg base (caOf P K) c cl) ∧ XfC K (caOf P K c) ∧ findIn K (.ref (caOf P K c)) cl.field = some none ∧ mg cl.name = some (.ref (caOf P K c)) ∧ XcC K (caOf P K c) ∧ kitOne K (.ref (caOf P K c)) (.type "ValueError") = some true ∧ (cl.field = noF → OwnC K (caOf P K c)) := by
  have hca : caOf P K c = ga K cl.name := by unfold caOf; rw [hc]; rfl
  unfold errB at h
  simp only [Bool.and_eq_true, decide_eq_true_eq] at h
  obtain ⟨⟨⟨⟨⟨⟨h1, h2⟩, h3⟩, h4⟩, hxc⟩, hvi⟩, hi⟩ := h
  rw [hca]
  refine ⟨fun hnf => ?_, xfB_ok h3, h4, He.glo_ok X G h1, xc_of hxc, hvi, fun hnf => by rw [if_pos hnf] at hi; exact own_of hi⟩
  rw [if_neg hnf] at hi
  unfold errI at hi
  simp only [Bool.and_eq_true, decide_eq_true_eq] at hi
  obtain ⟨⟨⟨⟨⟨h5, h6⟩, h7⟩, h8⟩, h9⟩, h10⟩ := hi
  split at h10
  · rename_i oc od fd osl ho
    unfold initB at h10
    split at h10
    · rename_i a b body x cc hpar hbody hclo hdef
      simp only [Bool.and_eq_true, decide_eq_true_eq] at h10
      obtain ⟨⟨⟨⟨⟨⟨⟨⟨⟨⟨⟨rfl, g1⟩, g2⟩, g3⟩, g4⟩, g5⟩, g6⟩, g7⟩, g8⟩, g9⟩, g10⟩, g11⟩ := h10
      obtain ⟨nm, qn, p, bd', sc, gl, clo, df, kd, doc, pm, an, cd, ct, bt⟩ := fd
      dsimp only at hpar hbody hclo hdef g1 g2 g3 g4 g5 g6 g7 g8 g9
      subst hbody hclo hdef g4 g5
      obtain ⟨cda, ccl, cdd, vs, ccs, tf, rfl, lcode, hvs⟩ := codeFile_of g6
      obtain ⟨cl', cld, csl, lcell⟩ := cellOf_of g7
      have hpo : p.posonlyargs = [] := by
        unfold plainPs at g3
        simp only [Bool.and_eq_true, List.isEmpty_iff] at g3
        exact g3.1.1.1
      have S := NdefX.nscope_by g2
      have nd : ([a.arg, b.arg] : List Str).Nodup := by
        have := S.nd.sublist (List.take_sublist 2 _)
        simpa using this
      have hargs : p.args.map (·.arg) = [a.arg, b.arg] := by rw [hpar]; rfl
      have I : InitAt prog K mg (ga K cl.name) (ma K (ga K cl.name) "__init__") _ a.arg b.arg cl.field := {
        fn := ⟨nm, qn, p, body, sc, .none, kd, doc, pm, an, cda, cc, ct, oc, od, osl, a, ccl, cdd, vs, ccs, prog.main.file, tf, cl', cld, csl, rfl, ho, g8, g1, S, by rw [hpo, hpar]; rfl, rfl, lcode, hvs, by simp, lcell, g9, S.frk _ (by simp)⟩
        ty := h6
        bn := .all fun us hl => by
          have hl : us.length = (p.args.map (·.arg)).length := by rw [hargs]; exact hl
          rw [show ([a.arg, b.arg] : List Str) = p.args.map (·.arg) from hargs.symm]
          exact bind_plain (fd := fnX nm qn p body sc [("__class__", cc)] .none kd doc pm an (.ref cda) ct) g3 rfl (by rw [show (fnX nm qn p body sc [("__class__", cc)] .none kd doc pm an (.ref cda) ct).params = p from rfl, hargs]; exact nd) hl
        cls := oex_of h2
        sub := h7
        isE := h8
        sup := h9
        fld := h4
        supN := hsup
        opq := hopq
        top := htop
        dbg := ⟨(dbg_of g10).1, (dbg_of g10).2, (dbg_of g11).1, (dbg_of g11).2⟩ }
      refine ⟨_, _, _, CX0, ?_, by rw [hca]; exact oex_of h2, by rw [hca]; exact h5, h6, by rw [hca]; exact init_ok I, I.bn, fun Y E _ _ _ _ _ _ _ z => z.elim⟩
      rw [hca]
      exact He.glo_ok X G h1
    · cases h10
  · cases h10
theorem row_of (X : K.In base) (G : base.Ns mainGlobals mg) (c : He.SaysD [] ds K) (e : exB P prog K = true) (hs : fnsB P P.fns ds = true) (htop : (prog.main.scope.names.lookup ("super" : Str)).isSome = false) : Row P prog w K mg base (caOf P K) (HasK K) := by
  have e0 := e
  unfold exB at e
  simp only [Bool.and_eq_true, decide_eq_true_eq] at e
  obtain ⟨⟨⟨⟨⟨⟨e1, e2⟩, e3⟩, e4⟩, e5⟩, e6⟩, e7⟩ := e
  have hsup := He.free_ok X G e4
  have err : ∀ (c : Nat) cl, P.cls[c]? = some cl → (cl.field ≠ noF → ErrRow prog w K mg base (caOf P K) c cl) ∧ XfC K (caOf P K c) ∧ findIn K (.ref (caOf P K c)) cl.field = some none ∧ mg cl.name = some (.ref (caOf P K c)) ∧ XcC K (caOf P K c) ∧ kitOne K (.ref (caOf P K c)) (.type "ValueError") = some true ∧ (cl.field = noF → OwnC K (caOf P K c)) := fun c cl hc =>
    errRow_of X G hsup e5 htop hc (List.all_eq_true.mp e6 cl (List.mem_of_getElem? hc))
  refine ⟨fun f fn hf => ?_, fun g x v hg => ?_, fun x hx => He.free_ok X G (List.all_eq_true.mp e3 x hx), fun c cl hc => (err c cl hc).1, fun c cl hc => (err c cl hc).2.2.2.1, fun c k hc hk => ?_, fun c hc => (err c P.cls[c] (List.getElem?_eq_getElem hc)).2.2.2.2.1, fun c hc => (err c P.cls[c] (List.getElem?_eq_getElem hc)).2.2.2.2.2.1, fun c cl hc => (err c cl hc).2.2.2.2.2.2, fun c k hc hk => ?_, fun c hc => ?_⟩
  · obtain ⟨fd, r, _⟩ := fnRow_of X G c e0 hs hf
    exact ⟨_, _, _, r⟩
  · have h := List.all_eq_true.mp e2 (x, v) (List.mem_of_getElem? hg)
    unfold glbB at h
    split at h
    · rename_i z i q
      cases q
      obtain ⟨t, e⟩ := He.int_ok X G h
      exact ⟨_, .int i, e, ⟨t, rfl⟩, by simp only [Rep]⟩
    · rename_i z i q
      cases q
      obtain ⟨t, e⟩ := He.str_ok X G h
      exact ⟨_, .str i, e, ⟨t, rfl⟩, by simp only [Rep]⟩
    · rename_i z ns q
      cases q
      obtain ⟨h1, h2⟩ := Bool.and_eq_true_iff.mp h
      refine ⟨_, .ref (ga K x), He.glo_ok X G h1, rfl, ?_⟩
      simp only [Rep]
      refine ⟨_, default, rfl, ?_⟩
      have := He.lstB_ok h2 fun _ => none
      rw [List.map_map] at this
      exact this
    · cases h
  · have := List.all_eq_true.mp (List.all_eq_true.mp e7 c (List.mem_range.mpr hc)) k (List.mem_range.mpr hk)
    exact of_decide_eq_true (Bool.and_eq_true_iff.mp this).2
  · have := List.all_eq_true.mp (List.all_eq_true.mp e7 c (List.mem_range.mpr hc)) k (List.mem_range.mpr hk)
    exact of_decide_eq_true (Bool.and_eq_true_iff.mp this).1
  · obtain ⟨_, h1, h2, _⟩ := err c P.cls[c] (List.getElem?_eq_getElem hc)
    refine ⟨h1, ?_⟩
    unfold fldOf
    rw [List.getElem?_eq_getElem hc]
    exact h2
/-! ### a law's end -/
theorem fnOk_no {k : Nat} {f : Addr} {fd : FuncData} {ps : List Str} {sp : Sp} (F : FnOk prog w K mg base (L2N.CX prog w) k f fd ps sp) : FnOk prog w K mg base CX0 k f fd ps fun vs H Q _ => sp vs H Q fun _ _ _ => False :=
  ⟨fun vs H Q E h => F.len vs H Q _ h, fun A outer s H args us vs Q E hr he hb hv hs => codeAny_mono (F.run A outer s H args us vs Q _ hr he hb hv hs) fun r s' h => by
    cases r with
    | ok fl => cases fl <;> exact h
    | error e =>
      obtain ⟨_, _, _, _, _, _, _, _, _, _, _, _, z⟩ := (h : L2N.CX prog w outer H s (fun _ _ _ => False) e s')
      exact z.elim⟩
end
/-- a law: where its def stands among P's, how deep its calls go, what the small text says -/
theorem walk_mp {l : PySem.W.OpenLaw} {n m : Nat} {q : Program} {loose : List Str} {XP : (Str → Option Value) → Heap → Prop} {d : DefRec} {P : Prog} {ds : List DefD} {N f : Nat} {fn : Fn} {x : Str} (hn : l.most = some m) (hm : m ≤ sizeLine) (hdf : d.params.defaults = []) (hr : Room (n + 5) callerA)
    (hs : fnsB P P.fns ds = true) (htop : (l.prog.main.scope.names.lookup ("super" : Str)).isSome = false) (hf : P.fns[f]? = some fn) (hx : fn.locals.take fn.np = [x]) (hp : fn.np = 1) (hnm : fn.name = d.name)
    (pure : ∀ ns : List Int, ns.length ≤ m → ∃ dd ps, callAt P n f [⟨.scr ns, 0, false⟩] = .ret (.bl true) dd ps) :
    PySem.W.WalkO q loose XP (hookM N ds (exB P l.prog)).says l.row.toRowW d [] (fun f vs => PySem.call f vs) := by
  refine L2.walk_ofE (l := l) (n := m) (k := n + 5) (x := x) (CX := L2.CX0) hn hm hdf hr ?_ (fun _ _ _ _ z => z)
  intro w mg fa h Y G hmg
  obtain ⟨K, KX, c, e⟩ := Y
  obtain ⟨fd, r, hb⟩ := fnRow_of KX G c e hs hf
  have hfa : fa = ga K fn.name := by
    have := r.mg
    rw [hnm, hmg] at this
    cases this
    rw [hnm]
  subst hfa
  refine ⟨K, fd, fun vs H Q _ => spF (bd P K (caOf P K) (HasK K) n fun _ _ _ _ => False) f vs H Q fun _ _ _ => False, KX, fun s u => ?_, fun H a ns hl hO hS => ?_, fun base KB GB => ?_⟩
  · have := hb s [u] (by rw [hp]; rfl)
    rw [hx] at this
    exact this
  · obtain ⟨dd, ps, hc⟩ := pure ns hl
    refine ⟨Fz.add (HasK K) [(a, .frz default (.lst (ns.map V.int)))], [], [⟨.scr ns, 0, false⟩], Fz.le.add, rfl, ?_, ?_⟩
    · refine ⟨[], ⟨[], [], rfl, ⟨rfl, ?_⟩, ?_⟩, fun b o hbo => ?_, fun p hp => by simp at hp, by simp⟩
      · simp only [Rep]
        exact ⟨a, default, rfl, .inr List.mem_cons_self⟩
      · show Roots _ [] []
        exact rfl
      · rcases hbo with h | h
        · exact .inr h
        · have e : (b, o) = (a, .frz default (.lst (ns.map V.int))) := by simpa using h
          cases e
          rcases hS with h | h
          · exact .inl ⟨h, by simp⟩
          · exact .inr (.inr h)
    · show (match callAt P n f [⟨.scr ns, 0, false⟩] with | .ret v d ps => _ | .exc c x ps => _ | .stuck => False)
      rw [hc]
      intro F' H' u le i
      obtain ⟨F2, _, r2, _⟩ := i.freeze
      simpa [Rep] using r2
  · have R := row_of (P := P) (prog := l.prog) (w := w) KB GB c e hs htop
    have r' : FnRow P K mg fn (ga K fn.name) fd (fn.locals.take fn.np) := r
    have F := fn_ok R n f fn _ fd _ (fun _ _ _ _ => False) hf r'
    rw [hx] at F
    exact fnOk_no F
end MP
set_option Elab.async false
set_option linter.all false
set_option maxRecDepth 100000
set_option maxHeartbeats 1000000
/-! M18: the small text walked: what it must answer, step by step (plain Lean; no row in sight). -/
namespace MP
open PySem
/-- the wanted ends of a piece of a body -/
structure Cn where
  nx : Env → Prop
  rt : PV → Nat → Env → Prop := fun _ _ _ => False
  ex : Nat → PV → Env → Prop := fun _ _ _ => False
  bk : Env → Prop := fun _ => False
  ct : Env → Prop := fun _ => False
abbrev KX := Nat → PV → Env → Prop
def Out.w {α : Type} (o : Out α) (K : α → Env → Prop) (X : KX) : Prop := match o with
  | .ok a e => K a e
  | .exc c v e => X c v e
  | .stuck => False
def SO.w (o : SO) (D : Cn) : Prop := match o with
  | .next e => D.nx e
  | .ret v d e => D.rt v d e
  | .brk e => D.bk e
  | .cnt e => D.ct e
  | .exc c v e => D.ex c v e
  | .stuck => False
/-- what is not looked into as yet -/
inductive Mark {α : Sort u} (a : α) : Type | mk | other
/-- a call's answer -/
def CR.w (o : CR) (K : PV → Nat → List (PV × Nat) → Prop) (X : Nat → PV → List (PV × Nat) → Prop) (m : Mark (PProd.mk K X)) : Prop := match o with
  | .ret v d ps => K v d ps
  | .exc c v ps => X c v ps
  | .stuck => False
/-- a branch -/
def wIf (b : Bool) (A B : Prop) (m : Mark (PProd.mk A B)) : Prop := if b = true then A else B
theorem wIf_t {A B : Prop} {m : Mark (PProd.mk A B)} : wIf true A B m = A := by unfold wIf; simp
theorem wIf_f {A B : Prop} {m : Mark (PProd.mk A B)} : wIf false A B m = B := by unfold wIf; simp
theorem wIf_of {b : Bool} {A B : Prop} (h1 : b = true → A) (h2 : b = false → B) : if b = true then A else B := by
  cases b
  · exact h2 rfl
  · exact h1 rfl
theorem wIf_p {p : Prop} [Decidable p] {A B : Prop} (h1 : p → A) (h2 : ¬ p → B) : if decide p = true then A else B := wIf_of (fun h => h1 (of_decide_eq_true h)) fun h => h2 (of_decide_eq_false h)
theorem wIf_n {b : Bool} {A B : Prop} {m : Mark (PProd.mk A B)} : wIf (!b) A B m = wIf b B A .mk := by cases b <;> rfl
/-- something asked, then the rest -/
def wAsk (a : Prop) (A : Prop) (m : Mark A) : Prop := a ∧ A
theorem dneN {a b : Nat} : decide (a ≠ b) = !(a == b) := by by_cases h : a = b <;> simp [h]
theorem wAsk_true {A : Prop} {m : Mark A} : wAsk True A m = A := by unfold wAsk; simp
theorem wAsk_of {a A : Prop} {m : Mark A} (h : a) (g : A) : wAsk a A m := ⟨h, g⟩

theorem Out.w_bind {α β : Type} {x : Out α} {f : α → Env → Out β} {K : β → Env → Prop} {X : KX} : (x.bind f).w K X = x.w (fun a e => (f a e).w K X) X := by
  cases x <;> rfl
theorem Out.w_then {α : Type} {x : Out α} {f : α → Env → SO} {D : Cn} : (x.then f).w D = x.w (fun a e => (f a e).w D) D.ex := by
  cases x <;> rfl

/-! ### slots -/
def cRd (o : Option (Option Slot)) (i : Nat) (env : Env) (K : AV → Env → Prop) : Prop := match o with
  | some (some s) => if s.d = 0 then K (.val s.v 0) env else K (.own i) env
  | _ => False
section
variable {i : Nat} {env : Env} {v : PV} {l : Bool} {d : Nat}
theorem cRd_0 {K : AV → Env → Prop} : cRd (some (some ⟨v, 0, l⟩)) i env K = K (.val v 0) env := by unfold cRd; simp
theorem cRd_1 {K : AV → Env → Prop} : cRd (some (some ⟨v, 1, l⟩)) i env K = K (.own i) env := by unfold cRd; simp
/-- an operand's value -/
def cVl (env : Env) (a : AV) (K : PV → Prop) : Prop := match resolve env a with
  | some v => K v
  | none => False
def cOw (o : Option (Option Slot)) (K : PV → Prop) : Prop := match o with
  | some (some s) => if s.d ≤ 1 then K s.v else False
  | _ => False
theorem cVl_val {K : PV → Prop} : cVl env (.val v d) K = K v := rfl
theorem cVl_own {K : PV → Prop} : cVl env (.own i) K = cOw env[i]? K := by
  unfold cVl cOw resolve
  rcases h : env[i]? with _ | _ | s
  · simp only [h]
  · simp only [h]
  · simp only [h]
    by_cases h : s.d ≤ 1 <;> simp [h]
theorem cOw_1 {K : PV → Prop} : cOw (some (some ⟨v, 1, l⟩)) K = K v := by unfold cOw; simp
theorem cOw_0 {K : PV → Prop} : cOw (some (some ⟨v, 0, l⟩)) K = K v := by unfold cOw; simp
def cVls (env : Env) : List AV → (List PV → Prop) → Prop
  | [], K => K []
  | a :: as, K => cVl env a fun v => cVls env as fun vs => K (v :: vs)
theorem cVls_nil {K : List PV → Prop} : cVls env [] K = K [] := rfl
theorem cVls_cons {a : AV} {as : List AV} {K : List PV → Prop} : cVls env (a :: as) K = cVl env a fun v => cVls env as fun vs => K (v :: vs) := rfl
theorem cVls_eq {as : List AV} {K : List PV → Prop} : cVls env as K = (match resolves env as with | some vs => K vs | none => False) := by
  induction as generalizing K with
  | nil => rfl
  | cons a as ih =>
    rw [cVls_cons]
    unfold cVl
    rw [resolves]
    cases resolve env a with
    | none => rfl
    | some v =>
      dsimp only
      rw [ih]
      cases resolves env as <;> rfl
/-- taken as a value -/
def cSt (a : AV) (env : Env) (K : PV → Env → Prop) : Prop := (settle a env).w K fun _ _ _ => False
def cSo (o : Option (Option Slot)) (i : Nat) (env : Env) (K : PV → Env → Prop) : Prop := match o with
  | some (some s) => K s.v (env.set i (some { s with d := 0 }))
  | _ => False
theorem cSt_val {K : PV → Env → Prop} : cSt (.val v d) env K = K v env := rfl
theorem cSt_own {K : PV → Env → Prop} : cSt (.own i) env K = cSo env[i]? i env K := by
  unfold cSt cSo settle frz
  rcases h : env[i]? with _ | _ | s <;> simp only [h] <;> rfl
theorem cSo_eq {K : PV → Env → Prop} : cSo (some (some ⟨v, d, l⟩)) i env K = K v (env.set i (some ⟨v, 0, l⟩)) := rfl
def cSts : List AV → Env → (List PV → Env → Prop) → Prop
  | [], env, K => K [] env
  | a :: as, env, K => cSt a env fun v env => cSts as env fun vs env => K (v :: vs) env
theorem cSts_nil {K : List PV → Env → Prop} : cSts [] env K = K [] env := rfl
theorem cSts_cons {a : AV} {as : List AV} {K : List PV → Env → Prop} : cSts (a :: as) env K = cSt a env fun v env => cSts as env fun vs env => K (v :: vs) env := rfl
theorem settle_ok {a : AV} : (∃ v e, settle a env = .ok v e) ∨ settle a env = .stuck := by
  cases a with
  | val v d => exact .inl ⟨_, _, rfl⟩
  | own i =>
    unfold settle
    rcases h : env[i]? with _ | _ | s <;> simp only [h]
    · exact .inr trivial
    · exact .inr trivial
    · exact .inl ⟨_, _, rfl⟩
theorem cSts_eq {as : List AV} {K : List PV → Env → Prop} : cSts as env K = (match settles as env with | some (vs, e) => K vs e | none => False) := by
  induction as generalizing K env with
  | nil => rfl
  | cons a as ih =>
    rw [cSts_cons]
    unfold cSt
    rw [settles]
    rcases settle_ok (a := a) (env := env) with ⟨v, e, h⟩ | h
    · rw [h]
      show cSts as e _ = _
      rw [ih]
      dsimp only
      cases settles as e <;> rfl
    · rw [h]; rfl
/-- one more argument -/
def cAc (a : AV) (acc : List AV) (env : Env) (K : List AV → Env → Prop) : Prop := match a with
  | .own i => if noLent acc i then K (acc ++ [.own i]) env else (match env[i]? with
    | some (some s) => K (acc ++ [.val s.v 0]) (frz env i)
    | _ => False)
  | .val v d => K (acc ++ [.val v d]) env
theorem cAc_val {acc : List AV} {K : List AV → Env → Prop} : cAc (.val v d) acc env K = K (acc ++ [.val v d]) env := rfl
def cFz (o : Option (Option Slot)) (i : Nat) (acc : List AV) (env : Env) (K : List AV → Env → Prop) : Prop := match o with
  | some (some s) => K (acc ++ [.val s.v 0]) (env.set i (some { s with d := 0 }))
  | _ => False
theorem cFz_eq {acc : List AV} {K : List AV → Env → Prop} : cFz (some (some ⟨v, d, l⟩)) i acc env K = K (acc ++ [.val v 0]) (env.set i (some ⟨v, 0, l⟩)) := rfl
theorem cAc_own {acc : List AV} {K : List AV → Env → Prop} : cAc (.own i) acc env K = wIf (noLent acc i) (K (acc ++ [.own i]) env) (cFz env[i]? i acc env K) .mk := by
  show (if noLent acc i then _ else _) = _
  unfold wIf cFz
  by_cases h : noLent acc i = true
  · rw [if_pos h, if_pos h]
  · rw [if_neg h, if_neg h]
    unfold frz
    rcases h : env[i]? with _ | _ | s <;> simp only [h]
theorem cAc_own' {acc : List AV} {K : List AV → Env → Prop} (h : noLent acc i = true) : cAc (.own i) acc env K = K (acc ++ [.own i]) env := by
  rw [cAc_own, h, wIf_t]
/-- a truth -/
def cTr (v : PV) (K : Bool → Prop) : Prop := match truth v with
  | some b => K b
  | none => False
theorem cTr_bl {b : Bool} {K : Bool → Prop} : cTr (.bl b) K = K b := rfl
theorem cTr_int {n : Int} {K : Bool → Prop} : cTr (.int n) K = K (decide (n ≠ 0)) := rfl
theorem cTr_lst {xs : List PV} {K : Bool → Prop} : cTr (.lst xs) K = K (!xs.isEmpty) := rfl
theorem cTr_tup {xs : List PV} {K : Bool → Prop} : cTr (.tup xs) K = K (!xs.isEmpty) := rfl
theorem cTr_scr {xs : List Int} {K : Bool → Prop} : cTr (.scr xs) K = K (!xs.isEmpty) := rfl
theorem cTr_non {K : Bool → Prop} : cTr .non K = K false := rfl
end

/-! ### primitives -/
def cPr (p : Prim) (vs : List PV) (K : PV → Nat → Prop) : Prop := match prim p vs with
  | some r => K (ofPRes r).1 (ofPRes r).2
  | none => False
section
variable {K : PV → Nat → Prop} {i j : Int} {x y : PV} {xs ys : List PV}
theorem cPr_add : cPr (.op .add) [.int i, .int j] K = K (.int (i + j)) 0 := rfl
theorem cPr_sub : cPr (.op .sub) [.int i, .int j] K = K (.int (i - j)) 0 := rfl
theorem cPr_mul : cPr (.op .mul) [.int i, .int j] K = wAsk (mulOk i j = true) (K (.int (i * j)) 0) .mk := by
  unfold cPr wAsk
  simp only [prim, op2]
  cases mulOk i j <;> simp [ofPRes]
theorem cPr_addZ {a b : Str} : cPr (.op .add) [.str a, .str b] K = wAsk (a.length + b.length ≤ sizeMax) (K (.str (a ++ b)) 0) .mk := by
  unfold cPr wAsk
  simp only [prim, op2]
  by_cases h : a.length + b.length ≤ sizeMax
  · rw [if_pos h]; simp only [h, ofPRes, true_and]
  · rw [if_neg h]; simp only [h, false_and]
theorem cPr_mulL : cPr (.op .mul) [.lst xs, .int j] K = wAsk (0 ≤ j ∧ j < 2 ^ 62 ∧ xs.length * j.toNat ≤ sizeMax) (K (.lst (List.replicate j.toNat xs).flatten) 1) .mk := by
  unfold cPr wAsk
  simp only [prim, op2]
  by_cases h : 0 ≤ j ∧ j < 2 ^ 62 ∧ xs.length * j.toNat ≤ sizeMax
  · rw [if_pos h]; simp only [h, ofPRes, true_and, and_self]
  · rw [if_neg h]; simp only [h, false_and]
theorem cPr_addL : cPr (.op .add) [.lst xs, .lst ys] K = wAsk (xs.length + ys.length ≤ sizeMax) (K (.lst (xs ++ ys)) 1) .mk := by
  unfold cPr wAsk
  simp only [prim, op2]
  by_cases h : xs.length + ys.length ≤ sizeMax
  · rw [if_pos h]; simp only [h, ofPRes, true_and]
  · rw [if_neg h]; simp only [h, false_and]
theorem cPr_toIntB {b : Bool} : cPr .toInt [.bl b] K = K (.int (if b = true then 1 else 0)) 0 := rfl
theorem okD_str {z : Str} : okD (.str z) = PyData.strOk z := by
  have h1 : (PyData.str z).canLay0 = PyData.strOk z := by simp only [PyData.canLay0]
  have h2 : (PyData.str z).depth ≤ 64 := by simp only [PyData.depth]; decide
  show (((PyData.str z).canLay0 && decide ((PyData.str z).depth ≤ 64)) : Bool) = _
  rw [h1, decide_eq_true h2, Bool.and_true]
theorem peq_str {a b : Str} : peq (.str a) (.str b) = decide (a = b) := by
  show (a == b) = _
  by_cases h : a = b
  · subst h; simp
  · rw [decide_eq_false h]; simpa using h
theorem peq_bl {a b : Bool} : peq (.bl a) (.bl b) = decide (a = b) := by cases a <;> cases b <;> rfl
theorem okD_bls2 {a b : Bool} : okD (.lst [.bl a, .bl b]) = true := rfl
theorem peq_bls2 {a b c d : Bool} : peq (.lst [.bl a, .bl b]) (.lst [.bl c, .bl d]) = (a == c && b == d) := by cases a <;> cases b <;> cases c <;> cases d <;> rfl
theorem okD_bls3 {a b c : Bool} : okD (.lst [.bl a, .bl b, .bl c]) = true := rfl
theorem peq_bls3 {a b c d e f : Bool} : peq (.lst [.bl a, .bl b, .bl c]) (.lst [.bl d, .bl e, .bl f]) = (a == d && (b == e && c == f)) := by cases a <;> cases b <;> cases c <;> cases d <;> cases e <;> cases f <;> rfl
theorem cPr_isiS {t : Ty} {z : Str} : cPr (.isi t) [.str z] K = K (.bl (decide (t = .str))) 0 := by cases t <;> rfl
theorem cPr_fdiv : cPr (.op .fdiv) [.int i, .int j] K = wAsk (divOk j = true) (K (.int (i / j)) 0) .mk := by
  unfold cPr wAsk
  simp only [prim, op2]
  cases divOk j <;> simp [ofPRes]
theorem cPr_mod : cPr (.op .mod) [.int i, .int j] K = wAsk (0 < j) (K (.int (i % j)) 0) .mk := by
  unfold cPr wAsk
  simp only [prim, op2]
  by_cases h : 0 < j
  · rw [if_pos h]; simp [h, ofPRes]
  · rw [if_neg h]; simp [h]
theorem cPr_pow : cPr (.op .pow) [.int i, .int j] K = wAsk (0 ≤ j ∧ j ≤ 1000000 ∧ i.natAbs < 2 ^ 64) (K (.int (i ^ j.toNat)) 0) .mk := by
  unfold cPr wAsk
  simp only [prim, op2]
  by_cases h : 0 ≤ j ∧ j ≤ 1000000 ∧ i.natAbs < 2 ^ 64
  · rw [if_pos h]; simp only [h, ofPRes, true_and, and_self]
  · rw [if_neg h]; simp only [h, false_and]
theorem cPr_shl : cPr (.op .shl) [.int i, .int j] K = wAsk (0 ≤ j ∧ j ≤ 1000000 ∧ i.natAbs < 2 ^ 64) (K (.int (i * 2 ^ j.toNat)) 0) .mk := by
  unfold cPr wAsk
  simp only [prim, op2]
  by_cases h : 0 ≤ j ∧ j ≤ 1000000 ∧ i.natAbs < 2 ^ 64
  · rw [if_pos h]; simp only [h, ofPRes, true_and, and_self]
  · rw [if_neg h]; simp only [h, false_and]
theorem cPr_shr : cPr (.op .shr) [.int i, .int j] K = wAsk (0 ≤ j) (K (.int (i / 2 ^ j.toNat)) 0) .mk := by
  unfold cPr wAsk
  simp only [prim, op2]
  by_cases h : 0 ≤ j
  · rw [if_pos h]; simp [h, ofPRes]
  · rw [if_neg h]; simp [h]
theorem cPr_neg : cPr .neg [.int i] K = K (.int (-i)) 0 := rfl
theorem cPr_lt : cPr (.cmp .lt) [.int i, .int j] K = K (.bl (decide (i < j))) 0 := rfl
theorem cPr_le : cPr (.cmp .le) [.int i, .int j] K = K (.bl (decide (i ≤ j))) 0 := rfl
theorem cPr_gt : cPr (.cmp .gt) [.int i, .int j] K = K (.bl (decide (j < i))) 0 := rfl
theorem cPr_ge : cPr (.cmp .ge) [.int i, .int j] K = K (.bl (decide (j ≤ i))) 0 := rfl
theorem okD_int : okD (.int i) = true := rfl
theorem okD_bl {b : Bool} : okD (.bl b) = true := rfl
theorem okD_non : okD .non = true := rfl
theorem okD_nilL : okD (.lst []) = true := rfl
theorem okD_nilT : okD (.tup []) = true := rfl
theorem peq_nilL : peq (.lst []) (.lst []) = true := rfl
theorem peq_nilT : peq (.tup []) (.tup []) = true := rfl
theorem peq_int : peq (.int i) (.int j) = decide (i = j) := by
  show (i == j) = decide (i = j)
  by_cases h : i = j <;> simp [h]
theorem cPr_eq : cPr (.cmp .eq) [x, y] K = wAsk (okD x = true ∧ okD y = true) (K (.bl (peq x y)) 0) .mk := by
  unfold cPr wAsk
  simp only [prim, cmp2]
  cases okD x <;> cases okD y <;> simp [ofPRes]
theorem cPr_ne : cPr (.cmp .ne) [x, y] K = wAsk (okD x = true ∧ okD y = true) (K (.bl (!peq x y)) 0) .mk := by
  unfold cPr wAsk
  simp only [prim, cmp2]
  cases okD x <;> cases okD y <;> simp [ofPRes]
theorem cPr_eqI : cPr (.cmp .eq) [.int i, .int j] K = K (.bl (decide (i = j))) 0 := by
  rw [cPr_eq, peq_int]; unfold wAsk; simp [okD_int]
theorem cPr_neI : cPr (.cmp .ne) [.int i, .int j] K = K (.bl (!decide (i = j))) 0 := by
  rw [cPr_ne, peq_int]; unfold wAsk; simp [okD_int]
theorem cPr_tup : cPr .tup xs K = wAsk (xs.length ≤ sizeMax) (K (.tup xs) 0) .mk := by
  unfold cPr wAsk
  simp only [prim]
  by_cases h : xs.length ≤ sizeMax
  · rw [if_pos h]; simp [h, ofPRes]
  · rw [if_neg h]; simp [h]
theorem cPr_lst : cPr .lst xs K = wAsk (xs.length ≤ sizeMax) (K (.lst xs) 1) .mk := by
  unfold cPr wAsk
  simp only [prim]
  by_cases h : xs.length ≤ sizeMax
  · rw [if_pos h]; simp [h, ofPRes]
  · rw [if_neg h]; simp [h]
/-- an item by its place -/
def cIx (xs : List PV) (i : Int) (K : PV → Prop) (m : Mark K) : Prop := match (place xs.length i).bind fun k => xs[k]? with
  | some v => K v
  | none => False
theorem cIx_eq : cPr .ix [.tup xs, .int i] K = cIx xs i (fun v => K v 0) .mk := by
  unfold cPr cIx
  simp only [prim, items]
  cases place xs.length i with
  | none => rfl
  | some k =>
    simp only [Option.bind_some]
    cases xs[k]? <;> rfl
theorem cIx_eqL : cPr .ix [.lst xs, .int i] K = cIx xs i (fun v => K v 0) .mk := cIx_eq (xs := xs) (i := i) (K := K)
theorem cIx_eqS {ns : List Int} : cPr .ix [.scr ns, .int i] K = cIx (ns.map PV.int) i (fun v => K v 0) .mk := cIx_eq (xs := ns.map PV.int) (i := i) (K := K)
theorem ask_if {p : Prop} [Decidable p] {r : Option PRes} {K : PRes → Prop} : (match (if p then r else none : Option PRes) with | some r => K r | none => False) = wAsk p (match r with | some r => K r | none => False) .mk := by
  unfold wAsk
  by_cases h : p
  · rw [if_pos h, eq_true h, true_and]
  · rw [if_neg h, eq_false h, false_and]
theorem cIx_eqZ {z : Str} : cPr .ix [.str z, .int i] K = wAsk (z.length ≤ sizeMax) (cIx (z.cps.toList.map fun c => PV.str ⟨#[c]⟩) i (fun v => K v 0) .mk) .mk := by
  refine (ask_if (K := fun r => K (ofPRes r).1 (ofPRes r).2)).trans ?_
  unfold cIx
  rw [List.length_map]
  cases place z.cps.toList.length i with
  | none => rfl
  | some k =>
    have e : (z.cps.toList.map fun c => PV.str ⟨#[c]⟩)[k]? = (z.cps.toList[k]?).map fun c => PV.str ⟨#[c]⟩ := List.getElem?_map
    show wAsk _ (match (z.cps.toList[k]?).map (fun c => PRes.old (PV.str ⟨#[c]⟩)) with | some r => K (ofPRes r).1 (ofPRes r).2 | none => False) .mk = wAsk _ (match (z.cps.toList.map fun c => PV.str ⟨#[c]⟩)[k]? with | some v => K v 0 | none => False) .mk
    rw [e]
    cases z.cps.toList[k]? <;> rfl
theorem cPr_lenZ {z : Str} : cPr .len [.str z] K = wAsk (z.length ≤ sizeMax) (K (.int z.length) 0) .mk := ask_if (K := fun r => K (ofPRes r).1 (ofPRes r).2)
/-- one sign in a text -/
def cSg (a z : Str) (K : Bool → Prop) : Prop := match a.cps.toList with
  | [c] => K (decide (c ∈ z.cps.toList))
  | _ => False
theorem cSg_1 {c : Nat} {z : Str} {K : Bool → Prop} : cSg ⟨#[c]⟩ z K = K (decide (c ∈ z.cps.toList)) := rfl
theorem cPr_inZ {a z : Str} : cPr (.cmp .inn) [.str a, .str z] K = cSg a z fun b => K (.bl b) 0 := by
  unfold cPr cSg
  rw [show prim (.cmp .inn) [.str a, .str z] = ((match a.cps.toList with | [c] => some (decide (c ∈ z.cps.toList)) | _ => none : Option Bool).map fun b => PRes.old (.bl b)) from rfl]
  rcases a.cps.toList with _ | ⟨c, _ | ⟨d, l⟩⟩ <;> rfl
theorem cPr_ninZ {a z : Str} : cPr (.cmp .nin) [.str a, .str z] K = cSg a z fun b => K (.bl (!b)) 0 := by
  unfold cPr cSg
  rw [show prim (.cmp .nin) [.str a, .str z] = ((match a.cps.toList with | [c] => some (!decide (c ∈ z.cps.toList)) | _ => none : Option Bool).map fun b => PRes.old (.bl b)) from rfl]
  rcases a.cps.toList with _ | ⟨c, _ | ⟨d, l⟩⟩ <;> rfl
theorem cIx_at {K : PV → Prop} {mk : Mark K} {k : Nat} {v : PV} (hi : i = k) (hv : xs[k]? = some v) : cIx xs i K mk = K v := by
  unfold cIx
  have hk : k < xs.length := (List.getElem?_eq_some_iff.mp hv).1
  have : place xs.length i = some k := by
    unfold place
    subst hi
    rw [if_pos (by omega), if_pos (by omega)]
    simp
  rw [this, Option.bind_some, hv]
theorem cIx_0 {K : PV → Prop} {mk : Mark K} {a : PV} : cIx (a :: xs) 0 K mk = K a := cIx_at (k := 0) rfl rfl
theorem cIx_1 {K : PV → Prop} {mk : Mark K} {a b : PV} : cIx (a :: b :: xs) 1 K mk = K b := cIx_at (k := 1) rfl rfl
theorem cIx_2 {K : PV → Prop} {mk : Mark K} {a b c : PV} : cIx (a :: b :: c :: xs) 2 K mk = K c := cIx_at (k := 2) rfl rfl
theorem cIx_3 {K : PV → Prop} {mk : Mark K} {a b c d : PV} : cIx (a :: b :: c :: d :: xs) 3 K mk = K d := cIx_at (k := 3) rfl rfl
theorem cIx_4 {K : PV → Prop} {mk : Mark K} {a b c d e : PV} : cIx (a :: b :: c :: d :: e :: xs) 4 K mk = K e := cIx_at (k := 4) rfl rfl
theorem cIx_5 {K : PV → Prop} {mk : Mark K} {a b c d e f : PV} : cIx (a :: b :: c :: d :: e :: f :: xs) 5 K mk = K f := cIx_at (k := 5) rfl rfl
theorem cIx_6 {K : PV → Prop} {mk : Mark K} {a b c d e f g : PV} : cIx (a :: b :: c :: d :: e :: f :: g :: xs) 6 K mk = K g := cIx_at (k := 6) rfl rfl
theorem cIx_7 {K : PV → Prop} {mk : Mark K} {a b c d e f g h : PV} : cIx (a :: b :: c :: d :: e :: f :: g :: h :: xs) 7 K mk = K h := cIx_at (k := 7) rfl rfl
theorem cIx_of {K : PV → Prop} {mk : Mark K} (h0 : 0 ≤ i) (h1 : i < xs.length) (h : ∀ v, xs[i.toNat]? = some v → K v) : cIx xs i K mk := by
  have hv : xs[i.toNat]? = some (xs[i.toNat]'(by omega)) := List.getElem?_eq_getElem _
  rw [cIx_at (k := i.toNat) (by omega) hv]
  exact h _ hv
/-- the place that is written -/
def cSx (k : PV) (xs : List PV) (K : Nat → Prop) (m : Mark K) : Prop := match k with
  | .int n => (match place xs.length n with
    | some j => K j
    | none => False)
  | _ => False
theorem cSx_at {K : Nat → Prop} {m : Mark K} {k : Nat} (hi : i = k) (hk : k < xs.length) : cSx (.int i) xs K m = K k := by
  unfold cSx
  have : place xs.length i = some k := by
    unfold place
    subst hi
    rw [if_pos (by omega), if_pos (by omega)]
    simp
  simp only [this]
theorem cSx_0 {K : Nat → Prop} {m : Mark K} {a : PV} : cSx (.int 0) (a :: xs) K m = K 0 := cSx_at rfl (by simp)
theorem cSx_1 {K : Nat → Prop} {m : Mark K} {a b : PV} : cSx (.int 1) (a :: b :: xs) K m = K 1 := cSx_at rfl (by simp)
theorem cPr_lenL : cPr .len [.lst xs] K = K (.int xs.length) 0 := rfl
theorem cPr_lenT : cPr .len [.tup xs] K = K (.int xs.length) 0 := rfl
theorem cPr_lenS {ns : List Int} : cPr .len [.scr ns] K = K (.int ns.length) 0 := by
  show K (.int ((ns.map PV.int).length : Int)) 0 = _
  rw [List.length_map]
theorem cPr_bits : cPr .bits [.int i] K = K (.int (Builtin.Int.intBits i : Nat)) 0 := rfl
theorem cPr_fmtB : cPr .fmtB [.int i] K = wAsk (0 ≤ i ∧ (binS i.natAbs).length ≤ sizeMax) (K (.str (binS i.natAbs)) 0) .mk := by
  unfold cPr wAsk
  simp only [prim]
  by_cases h : 0 ≤ i ∧ (binS i.natAbs).length ≤ sizeMax
  · rw [if_pos h]; simp only [h, ofPRes, true_and, and_self]
  · rw [if_neg h]; simp only [h, false_and]
theorem cPr_rev {z : Str} : cPr .rev [.str z] K = wAsk (z.length ≤ sizeMax) (K (.str ⟨z.cps.toList.reverse.toArray⟩) 0) .mk := by
  unfold cPr wAsk
  simp only [prim]
  by_cases h : z.length ≤ sizeMax
  · rw [if_pos h]; simp only [h, ofPRes, true_and]
  · rw [if_neg h]; simp only [h, false_and]
theorem cPr_cnt {y z : Str} : cPr (.cnt y) [.str z] K = K (.int (Txt.count z y)) 0 := rfl
theorem cPr_lrng : cPr .lrng [.int i, .int j] K = wAsk (rngOk i = true ∧ rngOk j = true ∧ (j - i).toNat ≤ sizeMax) (K (.lst (rangeL i j)) 1) .mk := by
  unfold cPr wAsk
  simp only [prim]
  by_cases h : rngOk i = true ∧ rngOk j = true ∧ (j - i).toNat ≤ sizeMax
  · obtain ⟨h1, h2, h3⟩ := h
    rw [if_pos (by rw [h1, h2, decide_eq_true h3]; rfl)]
    simp only [h1, h2, h3, ofPRes, true_and, and_self]
  · rw [if_neg fun z => h (by simpa [and_assoc] using z)]
    simp only [h, false_and]
theorem cPr_band : cPr (.op .band) [.int i, .int j] K = K (.int (Builtin.bitAnd i j)) 0 := rfl
theorem cPr_bor : cPr (.op .bor) [.int i, .int j] K = K (.int (Builtin.bitOr i j)) 0 := rfl
theorem cPr_toInt : cPr .toInt [.int i] K = K (.int i) 0 := rfl
theorem cPr_abs : cPr .abs [.int i] K = K (.int i.natAbs) 0 := rfl
theorem cPr_toLstL : cPr .toLst [.lst xs] K = K (.lst xs) 1 := rfl
theorem cPr_toLstT : cPr .toLst [.tup xs] K = K (.lst xs) 1 := rfl
theorem cPr_toTupL : cPr .toTup [.lst xs] K = K (.tup xs) 0 := rfl
theorem cPr_toTupT : cPr .toTup [.tup xs] K = K (.tup xs) 0 := rfl
theorem cPr_min : cPr .min2 [.int i, .int j] K = K (.int (min i j)) 0 := rfl
theorem cPr_max : cPr .max2 [.int i, .int j] K = K (.int (max i j)) 0 := rfl
theorem cPr_isiI {t : Ty} : cPr (.isi t) [.int i] K = K (.bl (decide (t = .int))) 0 := by cases t <;> rfl
theorem cPr_isiB {t : Ty} {b : Bool} : cPr (.isi t) [.bl b] K = K (.bl (decide (t = .int) || decide (t = .bool))) 0 := by cases t <;> rfl
theorem cPr_isiN {t : Ty} : cPr (.isi t) [.non] K = K (.bl false) 0 := by cases t <;> rfl
theorem cPr_isiT {t : Ty} : cPr (.isi t) [.tup xs] K = K (.bl (decide (t = .tup))) 0 := by cases t <;> rfl
theorem cPr_isiL {t : Ty} : cPr (.isi t) [.lst xs] K = K (.bl (decide (t = .lst))) 0 := by cases t <;> rfl
theorem cPr_isN : cPr (.cmp .is_) [.non, .non] K = K (.bl true) 0 := rfl
theorem cPr_isI : cPr (.cmp .is_) [.int i, .non] K = K (.bl false) 0 := rfl
theorem cPr_isT : cPr (.cmp .is_) [.tup xs, .non] K = K (.bl false) 0 := rfl
theorem cPr_isL : cPr (.cmp .is_) [.lst xs, .non] K = K (.bl false) 0 := rfl
theorem cPr_inN : cPr (.cmp .isnot) [.non, .non] K = K (.bl false) 0 := rfl
theorem cPr_inI : cPr (.cmp .isnot) [.int i, .non] K = K (.bl true) 0 := rfl
theorem cPr_inT : cPr (.cmp .isnot) [.tup xs, .non] K = K (.bl true) 0 := rfl
theorem cPr_inL : cPr (.cmp .isnot) [.lst xs, .non] K = K (.bl true) 0 := rfl
theorem intsOf_map : ∀ ns : List Int, intsOf (ns.map PV.int) = some ns
  | [] => rfl
  | n :: ns => by
    show (intsOf (ns.map PV.int)).map (n :: ·) = _
    rw [intsOf_map ns]; rfl
theorem cPr_sorted {ns : List Int} : cPr .sorted [.lst (ns.map PV.int)] K = K (.lst ((isort ns).map PV.int)) 1 := by
  unfold cPr
  simp only [prim, intsOf_map, Option.map_some]
  rfl
theorem cPr_sset {ns : List Int} : cPr .sset [.lst (ns.map PV.int)] K = wAsk (ns.length < 64) (K (.lst ((uset ns).map PV.int)) 1) .mk := by
  unfold cPr wAsk
  simp only [prim, intsOf_map, Option.bind_some]
  by_cases h : ns.length < 64
  · rw [if_pos h]; simp only [h, ofPRes, true_and]
  · rw [if_neg h]; simp only [h, false_and]
theorem any_ints (i : Int) : ∀ ns : List Int, (toDs (ns.map PV.int)).any (fun z => PyData.eqv z (toD (.int i))) = decide (i ∈ ns)
  | [] => by simp [toDs]
  | n :: ns => by
    show (PyData.eqv (.int n) (.int i) || (toDs (ns.map PV.int)).any (fun z => PyData.eqv z (toD (.int i)))) = _
    rw [any_ints i ns]
    show ((n == i) || decide (i ∈ ns)) = _
    by_cases h1 : n = i
    · subst h1; simp
    · have h2 : ¬ i = n := fun z => h1 z.symm
      by_cases h3 : i ∈ ns <;> simp [h1, h2, h3]
theorem okD_intsA : ∀ ns : List Int, PyData.canLayAll0 (toDs (ns.map PV.int)) = true ∧ PyData.depthAll (toDs (ns.map PV.int)) = 0
  | [] => ⟨rfl, rfl⟩
  | n :: ns => by
    obtain ⟨h1, h2⟩ := okD_intsA ns
    refine ⟨?_, ?_⟩
    · show (PyData.canLay0 (.int n) && PyData.canLayAll0 (toDs (ns.map PV.int))) = true
      rw [h1]; rfl
    · show max (PyData.depth (.int n)) (PyData.depthAll (toDs (ns.map PV.int))) = 0
      rw [h2]; rfl
theorem okD_ints (ns : List Int) : okD (.lst (ns.map PV.int)) = true := by
  obtain ⟨h1, h2⟩ := okD_intsA ns
  show (PyData.canLayAll0 (toDs (ns.map PV.int)) && decide (PyData.depthAll (toDs (ns.map PV.int)) + 1 ≤ 64)) = true
  rw [h1, h2]; rfl
theorem okD_intsT (ns : List Int) : okD (.tup (ns.map PV.int)) = true := okD_ints ns
theorem cPr_inI2 {ns : List Int} : cPr (.cmp .inn) [.int i, .lst (ns.map PV.int)] K = K (.bl (decide (i ∈ ns))) 0 := by
  unfold cPr
  simp only [prim, cmp2]
  rw [okD_ints, show okD (.int i) = true from rfl, any_ints]
  rfl
theorem cPr_ninI2 {ns : List Int} : cPr (.cmp .nin) [.int i, .lst (ns.map PV.int)] K = K (.bl (!decide (i ∈ ns))) 0 := by
  unfold cPr
  simp only [prim, cmp2]
  rw [okD_ints, show okD (.int i) = true from rfl, any_ints]
  rfl
theorem cPr_inT2 {ns : List Int} : cPr (.cmp .inn) [.int i, .tup (ns.map PV.int)] K = K (.bl (decide (i ∈ ns))) 0 := by
  unfold cPr
  simp only [prim, cmp2]
  rw [intsOf_map]
  rfl
theorem cPr_ninT2 {ns : List Int} : cPr (.cmp .nin) [.int i, .tup (ns.map PV.int)] K = K (.bl (!decide (i ∈ ns))) 0 := by
  unfold cPr
  simp only [prim, cmp2]
  rw [intsOf_map]
  rfl
/-- the second of a chain -/
def cCm (c : Cmp) (x y : PV) (K : Bool → Prop) : Prop := match cmp2 c x y with
  | some b => K b
  | none => False
theorem cCm_lt {K : Bool → Prop} : cCm .lt (.int i) (.int j) K = K (decide (i < j)) := rfl
theorem cCm_le {K : Bool → Prop} : cCm .le (.int i) (.int j) K = K (decide (i ≤ j)) := rfl
theorem cCm_gt {K : Bool → Prop} : cCm .gt (.int i) (.int j) K = K (decide (j < i)) := rfl
theorem cCm_ge {K : Bool → Prop} : cCm .ge (.int i) (.int j) K = K (decide (j ≤ i)) := rfl
end

/-! ### expressions -/
section
variable (P : Prog) (cf : Nat → List Slot → CR) (hx : Option (Nat × Nat × PV))
def wA (m : Bool) (e : E) (env : Env) (K : AV → Env → Prop) (X : KX) : Prop := (evA P cf hx m e env).w K X
def wAs (es : Es) (acc : List AV) (env : Env) (K : List AV → Env → Prop) (X : KX) : Prop := (evAs P cf hx es acc env).w K X
def wB (m conj : Bool) (es : Es) (env : Env) (K : AV → Env → Prop) (X : KX) : Prop := (evB P cf hx m conj es env).w K X
def wI (it : I) (env : Env) (K : List PV → Env → Prop) (X : KX) : Prop := (evI P cf hx it env).w K X
def wTs (es : Es) (env : Env) (K : Bool → Env → Prop) (X : KX) : Prop := (evTs P cf hx es env).w K X
def wT (e : E) (env : Env) (K : Bool → Env → Prop) (X : KX) : Prop := (tst P cf hx e env).w K X
def wS (s : S) (env : Env) (D : Cn) : Prop := (exS P cf hx s env).w D
def wSs (ss : Ss) (env : Env) (D : Cn) : Prop := (exSs P cf hx ss env).w D
end
def cGl (o : Option (Str × PV)) (K : PV → Prop) : Prop := match o with
  | some (_, v) => K v
  | none => False
theorem cGl_eq {x : Str} {v : PV} {K : PV → Prop} : cGl (some (x, v)) K = K v := rfl
/-- what is lent -/
def cLe (env : Env) (as : List AV) (K : List Slot → Env → Prop) : Prop := match lend env as with
  | some (ss, e) => K ss e
  | none => False
def cLo (o : Option (Option Slot)) (i : Nat) (env : Env) (K : Slot → Env → Prop) : Prop := match o with
  | some (some s) => K ⟨s.v, s.d, true⟩ (env.set i none)
  | _ => False
theorem cLo_eq {i : Nat} {env : Env} {v : PV} {d : Nat} {l : Bool} {K : Slot → Env → Prop} : cLo (some (some ⟨v, d, l⟩)) i env K = K ⟨v, d, true⟩ (env.set i none) := rfl
theorem cLe_nil {env : Env} {K : List Slot → Env → Prop} : cLe env [] K = K [] env := rfl
theorem cLe_val {env : Env} {v : PV} {d : Nat} {as : List AV} {K : List Slot → Env → Prop} : cLe env (.val v d :: as) K = cLe env as fun ss e => K (⟨v, d, false⟩ :: ss) e := by
  unfold cLe
  rw [lend]
  cases lend env as <;> rfl
theorem cLe_own {env : Env} {i : Nat} {as : List AV} {K : List Slot → Env → Prop} : cLe env (.own i :: as) K = cLo env[i]? i env fun s e => cLe e as fun ss e => K (s :: ss) e := by
  unfold cLe cLo
  rw [lend]
  rcases h : env[i]? with _ | _ | s
  · simp only [h]
  · simp only [h]
  · simp only [h]
    cases lend (env.set i none) as <;> rfl
/-- a target -/
def cTg (t : T) (v : PV) (d : Nat) (env : Env) (K : Env → Prop) : Prop := match tgt t v d env with
  | some e => K e
  | none => False
def cTo (o : Option (Option Slot)) (A : Prop) : Prop := match o with
  | some (some s) => if s.l = true then False else A
  | some none => A
  | none => False
theorem cTo_n {A : Prop} : cTo (some none) A = A := rfl
theorem cTo_f {A : Prop} {v : PV} {d : Nat} : cTo (some (some ⟨v, d, false⟩)) A = A := by unfold cTo; simp
theorem cTg_nm {i : Nat} {v : PV} {d : Nat} {env : Env} {K : Env → Prop} : cTg (.nm i) v d env K = cTo env[i]? (K (env.set i (some ⟨v, d, false⟩))) := by
  unfold cTg cTo
  rw [tgt]
  rcases h : env[i]? with _ | _ | s
  · simp only [h]
  · simp only [h]
  · simp only [h]
    cases s.l <;> simp
def cTgs : Ts → List PV → Env → (Env → Prop) → Prop
  | .nil, [], env, K => K env
  | .cons t ts, x :: xs, env, K => cTg t x 0 env fun e => cTgs ts xs e K
  | _, _, _, _ => False
theorem cTgs_nil {env : Env} {K : Env → Prop} : cTgs .nil [] env K = K env := by rw [cTgs]
theorem cTgs_cons {t : T} {ts : Ts} {x : PV} {xs : List PV} {env : Env} {K : Env → Prop} : cTgs (.cons t ts) (x :: xs) env K = cTg t x 0 env fun e => cTgs ts xs e K := by rw [cTgs]
theorem cTgs_eq : ∀ {ts : Ts} {xs : List PV} {env : Env} {K : Env → Prop}, cTgs ts xs env K = (match tgts ts xs env with | some e => K e | none => False)
  | .nil, [], env, K => by rw [cTgs, tgts]
  | .nil, _ :: _, env, K => by rw [cTgs, tgts] <;> simp
  | .cons t ts, [], env, K => by rw [cTgs, tgts] <;> simp
  | .cons t ts, x :: xs, env, K => by
    rw [cTgs, tgts]
    unfold cTg
    cases tgt t x 0 env with
    | none => rfl
    | some e => exact cTgs_eq
theorem cTg_tup {ts : Ts} {xs : List PV} {d : Nat} {env : Env} {K : Env → Prop} : cTg (.tup ts) (.tup xs) d env K = cTgs ts xs env K := by
  rw [cTgs_eq]
  unfold cTg
  rw [tgt]

section
variable {P : Prog} {cf : Nat → List Slot → CR} {hx : Option (Nat × Nat × PV)} {m conj : Bool} {env : Env} {K : AV → Env → Prop} {X : KX}
theorem wA_var {i : Nat} : wA P cf hx m (.var i) env K X = cRd env[i]? i env K := by
  unfold wA cRd
  rw [evA]
  rcases h : env[i]? with _ | _ | s
  · simp only [h]; rfl
  · simp only [h]; rfl
  · simp only [h]
    by_cases z : s.d = 0
    · rw [if_pos z, if_pos z]; rfl
    · rw [if_neg z, if_neg z]; rfl
theorem wA_glb {g : Nat} : wA P cf hx m (.glb g) env K X = cGl P.glbs[g]? fun v => K (.val v 0) env := by
  unfold wA cGl
  rw [evA]
  cases P.glbs[g]? <;> rfl
theorem wA_cst {c : PV} : wA P cf hx m (.cst c) env K X = K (.val c 0) env := by unfold wA; rw [evA]; rfl
theorem wA_prim {p : Prim} {es : Es} (h1 : isDisp p = false) (h2 : needsCalm p = false) : wA P cf hx m (.prim p es) env K X = wAs P cf hx es [] env (fun as env => cVls env as fun vs => cPr p vs fun v d => K (.val v d) env) X := by
  unfold wA
  rw [evA, h1, h2, Bool.and_false, if_neg (by decide), Out.w_bind]
  unfold wAs
  congr 1
  funext as env
  rw [cVls_eq]
  rw [if_neg (by decide)]
  cases resolves env as with
  | none => rfl
  | some vs =>
    show ((match prim p vs with | some r => _ | none => _ : Out AV)).w K X = cPr p vs _
    unfold cPr
    cases prim p vs <;> rfl
theorem wA_primC {p : Prim} {es : Es} (h1 : isDisp p = false) : wA P cf none m (.prim p es) env K X = wAs P cf none es [] env (fun as env => cVls env as fun vs => cPr p vs fun v d => K (.val v d) env) X := by
  unfold wA
  rw [evA, h1, show (Option.isSome (none : Option (Nat × Nat × PV)) && needsCalm p) = false from rfl, if_neg (by decide), Out.w_bind]
  unfold wAs
  congr 1
  funext as env
  rw [cVls_eq]
  rw [if_neg (by decide)]
  cases resolves env as with
  | none => rfl
  | some vs =>
    show ((match prim p vs with | some r => _ | none => _ : Out AV)).w K X = cPr p vs _
    unfold cPr
    cases prim p vs <;> rfl
theorem wA_disp {p : Prim} {es : Es} (h1 : isDisp p = true) (h2 : needsCalm p = false) : wA P cf hx m (.prim p es) env K X = wAs P cf hx es [] env (fun as env => cSts as env fun vs env => cPr p vs fun v d => K (.val v d) env) X := by
  unfold wA
  rw [evA, h1, h2, Bool.and_false, if_neg (by decide), Out.w_bind]
  unfold wAs
  congr 1
  funext as env
  rw [cSts_eq]
  rw [if_pos rfl]
  cases settles as env with
  | none => rfl
  | some q =>
    obtain ⟨vs, e⟩ := q
    show ((match prim p vs with | some r => _ | none => _ : Out AV)).w K X = cPr p vs _
    unfold cPr
    cases prim p vs <;> rfl
theorem wA_tup {es : Es} : wA P cf hx m (.prim .tup es) env K X = wAs P cf hx es [] env (fun as env => cSts as env fun vs env => cPr .tup vs fun v d => K (.val v d) env) X := wA_disp rfl rfl
theorem wA_lst {es : Es} : wA P cf hx m (.prim .lst es) env K X = wAs P cf hx es [] env (fun as env => cSts as env fun vs env => cPr .lst vs fun v d => K (.val v d) env) X := wA_disp rfl rfl
theorem wA_op {o : Op2} {es : Es} : wA P cf hx m (.prim (.op o) es) env K X = wAs P cf hx es [] env (fun as env => cVls env as fun vs => cPr (.op o) vs fun v d => K (.val v d) env) X := wA_prim rfl rfl
theorem wA_cmp {c : Cmp} {es : Es} : wA P cf hx m (.prim (.cmp c) es) env K X = wAs P cf hx es [] env (fun as env => cVls env as fun vs => cPr (.cmp c) vs fun v d => K (.val v d) env) X := wA_prim rfl rfl
theorem wA_neg {es : Es} : wA P cf hx m (.prim .neg es) env K X = wAs P cf hx es [] env (fun as env => cVls env as fun vs => cPr .neg vs fun v d => K (.val v d) env) X := wA_prim rfl rfl
theorem wA_ix {es : Es} : wA P cf hx m (.prim .ix es) env K X = wAs P cf hx es [] env (fun as env => cVls env as fun vs => cPr .ix vs fun v d => K (.val v d) env) X := wA_prim rfl rfl
theorem wA_len {es : Es} : wA P cf hx m (.prim .len es) env K X = wAs P cf hx es [] env (fun as env => cVls env as fun vs => cPr .len vs fun v d => K (.val v d) env) X := wA_prim rfl rfl
theorem wA_toInt {es : Es} : wA P cf hx m (.prim .toInt es) env K X = wAs P cf hx es [] env (fun as env => cVls env as fun vs => cPr .toInt vs fun v d => K (.val v d) env) X := wA_prim rfl rfl
theorem wA_abs {es : Es} : wA P cf hx m (.prim .abs es) env K X = wAs P cf hx es [] env (fun as env => cVls env as fun vs => cPr .abs vs fun v d => K (.val v d) env) X := wA_prim rfl rfl
theorem wA_toTup {es : Es} : wA P cf hx m (.prim .toTup es) env K X = wAs P cf hx es [] env (fun as env => cVls env as fun vs => cPr .toTup vs fun v d => K (.val v d) env) X := wA_prim rfl rfl
theorem wA_toLst {es : Es} : wA P cf hx m (.prim .toLst es) env K X = wAs P cf hx es [] env (fun as env => cVls env as fun vs => cPr .toLst vs fun v d => K (.val v d) env) X := wA_prim rfl rfl
theorem wA_sorted {es : Es} : wA P cf none m (.prim .sorted es) env K X = wAs P cf none es [] env (fun as env => cVls env as fun vs => cPr .sorted vs fun v d => K (.val v d) env) X := wA_primC rfl
theorem wA_isi {t : Ty} {es : Es} : wA P cf hx m (.prim (.isi t) es) env K X = wAs P cf hx es [] env (fun as env => cVls env as fun vs => cPr (.isi t) vs fun v d => K (.val v d) env) X := wA_prim rfl rfl
theorem wA_min {es : Es} : wA P cf none m (.prim .min2 es) env K X = wAs P cf none es [] env (fun as env => cVls env as fun vs => cPr .min2 vs fun v d => K (.val v d) env) X := wA_primC rfl
theorem wA_max {es : Es} : wA P cf none m (.prim .max2 es) env K X = wAs P cf none es [] env (fun as env => cVls env as fun vs => cPr .max2 vs fun v d => K (.val v d) env) X := wA_primC rfl
theorem wA_bits {es : Es} : wA P cf hx m (.prim .bits es) env K X = wAs P cf hx es [] env (fun as env => cVls env as fun vs => cPr .bits vs fun v d => K (.val v d) env) X := wA_prim rfl rfl
theorem wA_fmtB {es : Es} : wA P cf hx m (.prim .fmtB es) env K X = wAs P cf hx es [] env (fun as env => cVls env as fun vs => cPr .fmtB vs fun v d => K (.val v d) env) X := wA_prim rfl rfl
theorem wA_rev {es : Es} : wA P cf hx m (.prim .rev es) env K X = wAs P cf hx es [] env (fun as env => cVls env as fun vs => cPr .rev vs fun v d => K (.val v d) env) X := wA_prim rfl rfl
theorem wA_cnt {y : Str} {es : Es} : wA P cf hx m (.prim (.cnt y) es) env K X = wAs P cf hx es [] env (fun as env => cVls env as fun vs => cPr (.cnt y) vs fun v d => K (.val v d) env) X := wA_prim rfl rfl
theorem wA_sset {es : Es} : wA P cf none m (.prim .sset es) env K X = wAs P cf none es [] env (fun as env => cVls env as fun vs => cPr .sset vs fun v d => K (.val v d) env) X := wA_primC rfl
theorem wA_lrng {es : Es} : wA P cf none m (.prim .lrng es) env K X = wAs P cf none es [] env (fun as env => cVls env as fun vs => cPr .lrng vs fun v d => K (.val v d) env) X := wA_primC rfl
theorem truth_eq {env : Env} {a : AV} {α : Type} {f : Bool → Out α} {L : α → Env → Prop} : ((match (resolve env a).bind truth with | some b => f b | none => .stuck : Out α)).w L X = cVl env a fun v => cTr v fun b => (f b).w L X := by
  unfold cVl cTr
  cases resolve env a with
  | none => rfl
  | some v =>
    simp only [Option.bind_some]
    cases truth v <;> rfl
theorem wA_not {a : E} : wA P cf hx m (.not_ a) env K X = wA P cf hx m a env (fun v env => cVl env v fun v => cTr v fun b => K (.val (.bl (!b)) 0) env) X := by
  unfold wA
  rw [evA, Out.w_bind]
  congr 1
  funext v env
  exact truth_eq (f := fun b => .ok (AV.val (.bl (!b)) 0) env)
theorem wA_bop {es : Es} : wA P cf hx m (.bop conj es) env K X = wB P cf hx m conj es env K X := by unfold wA wB; rw [evA]
theorem wB_1 {e : E} : wB P cf hx m conj (.cons e .nil) env K X = wA P cf hx m e env K X := by
  unfold wB wA
  rw [evB, Out.w_bind]
  rfl
theorem wB_2 {e e2 : E} {es : Es} : wB P cf hx m conj (.cons e (.cons e2 es)) env K X = wA P cf hx m e env (fun a env => cVl env a fun v => cTr v fun b => wIf (b == conj) (wB P cf hx m conj (.cons e2 es) env K X) (K (if m then .val (.bl (!conj)) 0 else a) env) .mk) X := by
  unfold wA
  conv => lhs; unfold wB
  rw [evB, Out.w_bind]
  congr 1
  funext a env
  show ((match (resolve env a).bind truth with
      | some b => if b = conj then evB P cf hx m conj (.cons e2 es) env else .ok (if m then .val (.bl b) 0 else a) env
      | none => .stuck : Out AV)).w K X = _
  rw [truth_eq (f := fun b => if b = conj then evB P cf hx m conj (.cons e2 es) env else .ok (if m then .val (.bl b) 0 else a) env)]
  congr 1
  funext v
  congr 1
  funext b
  unfold wIf wB
  by_cases h : b = conj
  · subst h
    simp
  · have h2 : (b == conj) = false := by simpa using h
    have h3 : b = !conj := by cases b <;> cases conj <;> simp at h ⊢
    rw [if_neg h, h2, ← h3]
    rfl
theorem cmp_w {env : Env} {a b : AV} {c : Cmp} {α : Type} {f : Bool → PV → Out α} {L : α → Env → Prop} : ((match resolve env a, resolve env b with | some u, some v => (match cmp2 c u v with | some r => f r v | none => .stuck) | _, _ => .stuck : Out α)).w L X = cVl env a fun u => cVl env b fun v => cCm c u v fun r => (f r v).w L X := by
  unfold cVl cCm
  cases resolve env a with
  | none => cases resolve env b <;> rfl
  | some u => cases resolve env b with
    | none => rfl
    | some v =>
      dsimp only
      cases cmp2 c u v <;> rfl
theorem wA_chn {c c' : Cmp} {x y z : E} : wA P cf hx m (.chn c c' x y z) env K X = wA P cf hx false x env (fun a env => wA P cf hx false y env (fun b env => cVl env a fun u => cVl env b fun v => cCm c u v fun r =>
    wIf r (wA P cf hx false z env (fun e env => cVl env b fun v => cVl env e fun w => cCm c' v w fun r => K (.val (.bl r) 0) env) X) (K (.val (.bl false) 0) env) .mk) X) X := by
  unfold wA
  rw [evA, Out.w_bind]
  congr 1
  funext a env
  rw [Out.w_bind]
  congr 1
  funext b env
  unfold cVl cCm wIf
  cases resolve env a with
  | none => cases resolve env b <;> rfl
  | some u => cases resolve env b with
    | none => rfl
    | some v =>
      dsimp only
      rcases cmp2 c u v with _ | _ | _
      · rfl
      · rfl
      · dsimp only
        rw [Out.w_bind, if_pos rfl]
        congr 1
        funext e env
        cases resolve env b with
        | none => cases resolve env e <;> rfl
        | some v => cases resolve env e with
          | none => rfl
          | some w =>
            dsimp only
            cases cmp2 c' v w <;> rfl
theorem wA_chn3 {c c' c'' : Cmp} {x y z t : E} : wA P cf hx m (.chn3 c c' c'' x y z t) env K X = wA P cf hx false x env (fun a env => wA P cf hx false y env (fun b env => cVl env a fun u => cVl env b fun v => cCm c u v fun r =>
    wIf r (wA P cf hx false z env (fun e env => cVl env b fun v => cVl env e fun w => cCm c' v w fun r =>
      wIf r (wA P cf hx false t env (fun g env => cVl env e fun v => cVl env g fun w => cCm c'' v w fun r => K (.val (.bl r) 0) env) X) (K (.val (.bl false) 0) env) .mk) X) (K (.val (.bl false) 0) env) .mk) X) X := by
  unfold wA
  rw [evA, Out.w_bind]
  congr 1
  funext a env
  rw [Out.w_bind]
  congr 1
  funext b env
  unfold cVl cCm wIf
  cases resolve env a with
  | none => cases resolve env b <;> rfl
  | some u => cases resolve env b with
    | none => rfl
    | some v =>
      dsimp only
      rcases cmp2 c u v with _ | _ | _
      · rfl
      · rfl
      · dsimp only
        rw [Out.w_bind, if_pos rfl]
        congr 1
        funext e env
        cases resolve env b with
        | none => cases resolve env e <;> rfl
        | some v => cases resolve env e with
          | none => rfl
          | some w =>
            dsimp only
            rcases cmp2 c' v w with _ | _ | _
            · rfl
            · rfl
            · dsimp only
              rw [Out.w_bind, if_pos rfl]
              congr 1
              funext g env
              cases resolve env e with
              | none => cases resolve env g <;> rfl
              | some v => cases resolve env g with
                | none => rfl
                | some w =>
                  dsimp only
                  cases cmp2 c'' v w <;> rfl
theorem wA_exi {i j c k : Nat} {v : PV} : wA P cf (some (j, c, v)) m (.exi i k) env K X = wAsk (i = j ∧ c < P.cls.length ∧ k < P.cls.length) (K (.val (.bl (isUp P c k)) 0) env) .mk := by
  unfold wA wAsk
  rw [evA]
  by_cases h : i = j ∧ c < P.cls.length ∧ k < P.cls.length
  · simp only [if_pos h]
    show K _ _ = (_ ∧ K _ _)
    rw [eq_true h, true_and]
  · simp only [if_neg h]
    show False = (_ ∧ K _ _)
    rw [eq_false h, false_and]
theorem wA_exv {i j c : Nat} {v : PV} : wA P cf (some (j, c, v)) m (.exv i) env K X = wAsk (i = j ∧ c < P.cls.length) (K (.val (.bl true) 0) env) .mk := by
  unfold wA wAsk
  rw [evA]
  by_cases h : i = j ∧ c < P.cls.length
  · simp only [if_pos h]
    show K _ _ = (_ ∧ K _ _)
    rw [eq_true h, true_and]
  · simp only [if_neg h]
    show False = (_ ∧ K _ _)
    rw [eq_false h, false_and]
/-- an end of a slice -/
def wP (P : Prog) (cf : Nat → List Slot → CR) (hx : Option (Nat × Nat × PV)) (lo : Es) (env : Env) (K : Option Int → Env → Prop) (X : KX) : Prop := (evP P cf hx lo env).w K X
def cIn (v : PV) (K : Int → Prop) : Prop := match v with
  | .int i => K i
  | _ => False
theorem cIn_int {i : Int} {K : Int → Prop} : cIn (.int i) K = K i := rfl
theorem wP_nil {K : Option Int → Env → Prop} : wP P cf hx .nil env K X = K none env := by unfold wP; rw [evP]; rfl
theorem wP_one {e : E} {K : Option Int → Env → Prop} : wP P cf hx (.cons e .nil) env K X = wA P cf hx false e env (fun a env => cVl env a fun v => cIn v fun i => K (some i) env) X := by
  unfold wP wA
  rw [evP, Out.w_bind]
  congr 1
  funext a env
  unfold cVl cIn
  cases resolve env a with
  | none => rfl
  | some v => cases v <;> rfl
def cCut (v : PV) (l u : Option Int) (K : PV → Nat → Prop) : Prop := match cutP v l u with
  | some r => K (ofPRes r).1 (ofPRes r).2
  | none => False
theorem cCut_lst {xs : List PV} {l u : Option Int} {K : PV → Nat → Prop} : cCut (.lst xs) l u K = K (.lst (cutL xs l u)) 1 := rfl
theorem cCut_str {z : Str} {l u : Option Int} {K : PV → Nat → Prop} : cCut (.str z) l u K = wAsk (z.length ≤ sizeMax) (K (.str (L2.cutS z l u)) 0) .mk := by
  unfold cCut wAsk
  rw [show cutP (.str z) l u = if z.length ≤ sizeMax then some (.old (.str (L2.cutS z l u))) else none from rfl]
  by_cases h : z.length ≤ sizeMax
  · rw [if_pos h]
    show K _ _ = (_ ∧ K _ _)
    rw [eq_true h, true_and]; rfl
  · rw [if_neg h]
    show False = (_ ∧ K _ _)
    rw [eq_false h, false_and]
theorem wA_slc {x : E} {lo hi : Es} : wA P cf hx m (.slc x lo hi) env K X = wA P cf hx false x env (fun a env => wP P cf hx lo env (fun l env => wP P cf hx hi env (fun u env => cVl env a fun v => cCut v l u fun v d => K (.val v d) env) X) X) X := by
  unfold wA wP
  rw [evA, Out.w_bind]
  congr 1
  funext a env
  rw [Out.w_bind]
  congr 1
  funext l env
  rw [Out.w_bind]
  congr 1
  funext u env
  unfold cVl cCut
  cases resolve env a with
  | none => rfl
  | some v =>
    dsimp only [Option.bind]
    cases cutP v l u <;> rfl
theorem wA_call {f : Nat} {es : Es} : wA P cf none m (.call f es) env K X = wAs P cf none es [] env (fun as env => cLe env as fun ss e => CR.w (cf f ss) (fun v d ps => K (.val v d) (back env e as ps)) (fun c v ps => X c v (back env e as ps)) .mk) X := by
  unfold wA
  rw [evA, if_neg (by decide), Out.w_bind]
  unfold wAs
  congr 1
  funext as env
  unfold cLe
  cases lend env as with
  | none => rfl
  | some q =>
    obtain ⟨ss, e⟩ := q
    dsimp only
    cases cf f ss <;> rfl
theorem wA_exf {i j c : Nat} {f : Str} {v : PV} : wA P cf (some (j, c, v)) m (.exf i f) env K X = wAsk (i = j ∧ (P.cls[c]?.map (·.field)) = some f) (K (.val v 0) env) .mk := by
  unfold wA wAsk
  rw [evA]
  by_cases h : i = j ∧ (P.cls[c]?.map (·.field)) = some f
  · simp only [if_pos h]
    simp only [h, and_self, true_and]
    rfl
  · simp only [if_neg h]
    simp only [h, false_and]
    rfl
theorem wAs_nil {acc : List AV} {K : List AV → Env → Prop} : wAs P cf hx .nil acc env K X = K acc env := by unfold wAs; rw [evAs]; rfl
theorem wAs_cons {e : E} {es : Es} {acc : List AV} {K : List AV → Env → Prop} : wAs P cf hx (.cons e es) acc env K X = wA P cf hx false e env (fun a env => cAc a acc env fun acc env => wAs P cf hx es acc env K X) X := by
  unfold wAs wA
  rw [evAs, Out.w_bind]
  congr 1
  funext a env
  cases a with
  | val v d => rfl
  | own i =>
    unfold cAc
    dsimp only
    by_cases h : noLent acc i = true
    · rw [if_pos h, if_pos h]
    · rw [if_neg h, if_neg h]
      rcases h : env[i]? with _ | _ | s <;> simp only [h] <;> rfl
/-- what is walked -/
def cIt (v : PV) (K : List PV → Prop) : Prop := match itemsI v with
  | some xs => K xs
  | none => False
theorem cIt_tup {xs : List PV} {K : List PV → Prop} : cIt (.tup xs) K = K xs := rfl
theorem cIt_lst {xs : List PV} {K : List PV → Prop} : cIt (.lst xs) K = K xs := rfl
theorem cIt_str {z : Str} {K : List PV → Prop} : cIt (.str z) K = K (z.cps.toList.map fun c => PV.str ⟨#[c]⟩) := rfl
theorem cIt_scr {ns : List Int} {K : List PV → Prop} : cIt (.scr ns) K = K (ns.map PV.int) := rfl
theorem wI_ex {e : E} {K : List PV → Env → Prop} : wI P cf hx (.ex e) env K X = wA P cf hx false e env (fun a env => cSt a env fun v env => cIt v fun xs => K xs env) X := by
  unfold wI wA
  rw [evI, Out.w_bind]
  congr 1
  funext a env
  rw [Out.w_bind]
  unfold cSt
  rcases settle_ok (a := a) (env := env) with ⟨v, e, h⟩ | h
  · rw [h]
    show ((match itemsI v with | some xs => _ | none => _ : Out (List PV))).w K X = cIt v fun xs => K xs e
    unfold cIt
    cases itemsI v <;> rfl
  · rw [h]; rfl
def cIe (v : PV) (K : List PV → Prop) : Prop := match itemsE v with
  | some xs => K (enumF 0 xs)
  | none => False
theorem cIe_lst {xs : List PV} {K : List PV → Prop} : cIe (.lst xs) K = K (enumF 0 xs) := rfl
theorem cIe_str {z : Str} {K : List PV → Prop} : cIe (.str z) K = K (enumF 0 (z.cps.toList.map fun c => PV.str ⟨#[c]⟩)) := rfl
theorem cIe_scr {ns : List Int} {K : List PV → Prop} : cIe (.scr ns) K = K (enumF 0 (ns.map PV.int)) := rfl
theorem wI_enu {e : E} {K : List PV → Env → Prop} : wI P cf hx (.enu e) env K X = wA P cf hx false e env (fun a env => cSt a env fun v env => cIe v fun xs => K xs env) X := by
  unfold wI wA
  rw [evI, Out.w_bind]
  congr 1
  funext a env
  rw [Out.w_bind]
  unfold cSt
  rcases settle_ok (a := a) (env := env) with ⟨v, e, h⟩ | h
  · rw [h]
    show ((match itemsE v with | some xs => _ | none => _ : Out (List PV))).w K X = cIe v fun xs => K xs e
    unfold cIe
    cases itemsE v <;> rfl
  · rw [h]; rfl
theorem wT_eq {e : E} {K : Bool → Env → Prop} : wT P cf hx e env K X = wA P cf hx true e env (fun a env => cVl env a fun v => cTr v fun b => K b env) X := by
  unfold wT wA tst
  rw [Out.w_bind]
  congr 1
  funext a env
  exact truth_eq (f := fun b => .ok b env)
theorem wTs_nil {K : Bool → Env → Prop} : wTs P cf hx .nil env K X = K true env := by unfold wTs; rw [evTs]; rfl
theorem wTs_cons {e : E} {es : Es} {K : Bool → Env → Prop} : wTs P cf hx (.cons e es) env K X = wA P cf hx true e env (fun a env => cVl env a fun v => cTr v fun b => wIf b (wTs P cf hx es env K X) (K false env) .mk) X := by
  unfold wTs wA
  rw [evTs, Out.w_bind]
  congr 1
  funext a env
  show ((match (resolve env a).bind truth with
      | some b => if b then evTs P cf hx es env else .ok false env
      | none => .stuck : Out Bool)).w K X = _
  rw [truth_eq (f := fun b => if b then evTs P cf hx es env else .ok false env)]
  congr 1
  funext v
  congr 1
  funext b
  cases b <;> rfl

/-! ### statements -/
variable {D : Cn}
theorem wSs_nil : wSs P cf hx .nil env D = D.nx env := by unfold wSs; rw [exSs]; rfl
theorem wSs_cons {s : S} {ss : Ss} : wSs P cf hx (.cons s ss) env D = wS P cf hx s env { D with nx := fun env => wSs P cf hx ss env D } := by
  unfold wSs wS
  rw [exSs]
  cases exS P cf hx s env <;> rfl
theorem wSs_one {s : S} : wSs P cf hx (.cons s .nil) env D = wS P cf hx s env D := by
  unfold wSs wS
  rw [exSs]
  cases exS P cf hx s env <;> first | rfl | simp only [exSs]
theorem SO.w_mono {o : SO} {D D' : Cn} (h : o.w D) (h1 : ∀ e, D.nx e → D'.nx e) (h2 : ∀ v d e, D.rt v d e → D'.rt v d e) (h3 : ∀ c v e, D.ex c v e → D'.ex c v e) (h4 : ∀ e, D.bk e → D'.bk e) (h5 : ∀ e, D.ct e → D'.ct e) : o.w D' := by
  cases o with
  | next e => exact h1 _ h
  | ret v d e => exact h2 _ _ _ h
  | brk e => exact h4 _ h
  | cnt e => exact h5 _ h
  | exc c v e => exact h3 _ _ _ h
  | stuck => exact h
/-- what holds between two statements -/
theorem wSs_mid (I : Env → Prop) {s : S} {ss : Ss} (h : wS P cf hx s env { D with nx := I }) (g : ∀ e, I e → wSs P cf hx ss e D) : wSs P cf hx (.cons s ss) env D := by
  rw [wSs_cons]
  exact SO.w_mono (D := { D with nx := I }) h g (fun _ _ _ h => h) (fun _ _ _ h => h) (fun _ h => h) (fun _ h => h)
theorem wS_asg {i : Nat} {e : E} : wS P cf hx (.asg (.nm i) e) env D = wA P cf hx false e env (fun a env => match a with
    | .val v d => cTg (.nm i) v d env D.nx
    | .own j => cSt (.own j) env fun v env => cTg (.nm i) v 0 env D.nx) D.ex := by
  unfold wS wA
  rw [exS, show (hx.isSome && !isNm (.nm i)) = false from by cases hx <;> rfl, if_neg (by decide), Out.w_then]
  congr 1
  funext a env
  cases a with
  | val v d =>
    dsimp only
    unfold cTg
    cases tgt (.nm i) v d env <;> rfl
  | own j =>
    dsimp only
    rw [Out.w_then]
    unfold cSt
    rcases settle_ok (a := .own j) (env := env) with ⟨v, e, h⟩ | h
    · rw [h]
      show ((match tgt (.nm i) v 0 e with | some env => _ | none => _ : SO)).w D = cTg (.nm i) v 0 e D.nx
      unfold cTg
      cases tgt (.nm i) v 0 e <;> rfl
    · rw [h]; rfl
theorem wS_asgT {t : T} {e : E} : wS P cf none (.asg t e) env D = wA P cf none false e env (fun a env => match a with
    | .val v d => cTg t v d env D.nx
    | .own j => cSt (.own j) env fun v env => cTg t v 0 env D.nx) D.ex := by
  unfold wS wA
  rw [exS, show ((none : Option (Nat × Nat × PV)).isSome && !isNm t) = false from rfl, if_neg (by decide), Out.w_then]
  congr 1
  funext a env
  cases a with
  | val v d =>
    dsimp only
    unfold cTg
    cases tgt t v d env <;> rfl
  | own j =>
    dsimp only
    rw [Out.w_then]
    unfold cSt
    rcases settle_ok (a := .own j) (env := env) with ⟨v, e, h⟩ | h
    · rw [h]
      show ((match tgt t v 0 e with | some env => _ | none => _ : SO)).w D = cTg t v 0 e D.nx
      unfold cTg
      cases tgt t v 0 e <;> rfl
    · rw [h]; rfl
def cPa : List Nat → List AV → Env → (Env → Prop) → Prop
  | [], [], env, K => K env
  | i :: is, a :: as, env, K => cSt a env fun v env => cPa is as env fun env => cTg (.nm i) v 0 env K
  | _, _, _, _ => False
theorem cPa_nil {env : Env} {K : Env → Prop} : cPa [] [] env K = K env := by rw [cPa]
theorem cPa_cons {i : Nat} {is : List Nat} {a : AV} {as : List AV} {env : Env} {K : Env → Prop} : cPa (i :: is) (a :: as) env K = cSt a env fun v env => cPa is as env fun env => cTg (.nm i) v 0 env K := by rw [cPa]
theorem cPa_eq : ∀ {is : List Nat} {as : List AV} {env : Env} {K : Env → Prop}, cPa is as env K = (match setAll is as env with | some e => K e | none => False)
  | [], [], env, K => by rw [cPa, setAll]
  | [], _ :: _, env, K => by rw [cPa, setAll] <;> simp
  | _ :: _, [], env, K => by rw [cPa, setAll] <;> simp
  | i :: is, a :: as, env, K => by
    rw [cPa, setAll]
    unfold cSt
    rcases settle_ok (a := a) (env := env) with ⟨v, e, h⟩ | h
    · rw [h]
      show cPa is as e _ = _
      rw [cPa_eq]
      dsimp only
      cases setAll is as e <;> rfl
    · rw [h]; rfl
theorem wS_par {is : List Nat} {es : Es} : wS P cf none (.par is es) env D = wAs P cf none es [] env (fun as env => cPa is as env D.nx) D.ex := by
  unfold wS wAs
  rw [exS, if_neg (by decide), Out.w_then]
  congr 1
  funext as env
  rw [cPa_eq]
  cases setAll is as env <;> rfl
/-- a list of one's own -/
def cLs (o : Option (Option Slot)) (K : List PV → Bool → Prop) : Prop := match o with
  | some (some ⟨.lst xs, 1, l⟩) => K xs l
  | _ => False
theorem cLs_eq {xs : List PV} {l : Bool} {K : List PV → Bool → Prop} : cLs (some (some ⟨.lst xs, 1, l⟩)) K = K xs l := rfl
theorem cLs_of {env : Env} {i : Nat} {K : List PV → Bool → Prop} (h : cLs env[i]? K) : ∃ xs l, env[i]? = some (some ⟨.lst xs, 1, l⟩) ∧ K xs l := by
  rcases e : env[i]? with _ | _ | ⟨v, d, l⟩
  · rw [e] at h; exact h.elim
  · rw [e] at h; exact h.elim
  · rw [e] at h
    cases v <;> try exact h.elim
    rename_i xs
    rcases d with _ | _ | d
    · exact h.elim
    · exact ⟨xs, l, rfl, h⟩
    · exact h.elim
theorem isLst_of {env : Env} {i : Nat} {xs : List PV} {l : Bool} (h : env[i]? = some (some ⟨.lst xs, 1, l⟩)) : isLst env i = true := by
  unfold isLst
  rw [h]
  rfl
/-- statements that wait for a rule -/
def wH (P : Prog) (cf : Nat → List Slot → CR) (hx : Option (Nat × Nat × PV)) (s : S) (env : Env) (D : Cn) (m : Mark D) : Prop := wS P cf hx s env D
theorem wH_app {i : Nat} {e : E} : wS P cf hx (.app i e) env D = wH P cf hx (.app i e) env D .mk := rfl
theorem wH_setix {i : Nat} {ix e : E} : wS P cf hx (.setix i ix e) env D = wH P cf hx (.setix i ix e) env D .mk := rfl
theorem wH_whl {c : E} {b : Ss} : wS P cf hx (.whl c b) env D = wH P cf hx (.whl c b) env D .mk := rfl
variable {mk : Mark D}
/-- o.append(e): only with the list at hand -/
theorem wS_app {i : Nat} {e : E} (h : cLs env[i]? fun _ _ => wA P cf hx false e env (fun a env => cSt a env fun v env => cLs env[i]? fun xs l => wAsk (xs.length < sizeMax) (D.nx (env.set i (some ⟨.lst (xs ++ [v]), 1, l⟩))) .mk) D.ex) : wH P cf hx (.app i e) env D mk := by
  obtain ⟨xs, l, he, h⟩ := cLs_of h
  unfold wH wS
  rw [exS, isLst_of he, Bool.not_true, if_neg (by decide), Out.w_then]
  unfold wA at h
  cases ho : evA P cf hx false e env with
  | stuck => rw [ho] at h; exact h
  | exc c v e2 => rw [ho] at h; exact h
  | ok a e2 =>
    rw [ho] at h
    show ((settle a e2).then _).w D
    rw [Out.w_then]
    have h : cSt a e2 _ := h
    unfold cSt at h
    rcases settle_ok (a := a) (env := e2) with ⟨v, e3, hs⟩ | hs
    · rw [hs] at h ⊢
      have h : cLs e3[i]? fun xs l => wAsk (xs.length < sizeMax) (D.nx (e3.set i (some ⟨.lst (xs ++ [v]), 1, l⟩))) .mk := h
      obtain ⟨ys, l2, hy, hz, h⟩ := cLs_of h
      show SO.w (match e3[i]? with | some (some s) => _ | _ => _) D
      rw [hy]
      dsimp only
      rw [if_pos hz]
      exact h
    · rw [hs] at h; exact h.elim
/-- o[ix] = e -/
theorem wS_setix {i : Nat} {ix e : E} (h : wA P cf hx false e env (fun a env => cSt a env fun v env => cLs env[i]? fun _ _ => wA P cf hx false ix env (fun b env => cVl env b fun k => cLs env[i]? fun xs l => cSx k xs (fun j => D.nx (env.set i (some ⟨.lst (xs.set j v), 1, l⟩))) .mk) D.ex) D.ex) : wH P cf hx (.setix i ix e) env D mk := by
  unfold wH wS
  rw [exS, Out.w_then]
  unfold wA at h
  cases ho : evA P cf hx false e env with
  | stuck => rw [ho] at h; exact h
  | exc c v e2 => rw [ho] at h; exact h
  | ok a e2 =>
    rw [ho] at h
    show ((settle a e2).then _).w D
    rw [Out.w_then]
    have h : cSt a e2 _ := h
    unfold cSt at h
    rcases settle_ok (a := a) (env := e2) with ⟨v, e3, hs⟩ | hs
    · rw [hs] at h ⊢
      have h : cLs e3[i]? fun _ _ => _ := h
      obtain ⟨xs, l, he, h⟩ := cLs_of h
      show SO.w (if !isLst e3 i then _ else _) D
      rw [isLst_of he, Bool.not_true, if_neg (by decide), Out.w_then]
      cases hb : evA P cf hx false ix e3 with
      | stuck => rw [hb] at h; exact h
      | exc c v e2 => rw [hb] at h; exact h
      | ok b e4 =>
        rw [hb] at h
        have h : cVl e4 b fun k => cLs e4[i]? fun xs l => cSx k xs (fun j => D.nx (e4.set i (some ⟨.lst (xs.set j v), 1, l⟩))) .mk := h
        unfold cVl at h
        show SO.w (match resolve e4 b, e4[i]? with | some (.int k), some (some s) => _ | _, _ => _) D
        cases hr : resolve e4 b with
        | none => rw [hr] at h; exact h.elim
        | some k =>
          rw [hr] at h
          obtain ⟨ys, l2, hy, h⟩ := cLs_of h
          rw [hy]
          cases k <;> try exact h.elim
          rename_i n _
          unfold cSx at h
          dsimp only at h ⊢
          cases hp : place ys.length n with
          | none => rw [hp] at h; exact h.elim
          | some j => rw [hp] at h; exact h
    · rw [hs] at h; exact h.elim
theorem wS_exp {e : E} : wS P cf hx (.exp e) env D = wA P cf hx false e env (fun _ env => D.nx env) D.ex := by
  unfold wS wA
  rw [exS, Out.w_then]
  rfl
theorem wS_ifs {c : E} {t f : Ss} : wS P cf hx (.ifs c t f) env D = wT P cf hx c env (fun b env => wIf b (wSs P cf hx t env D) (wSs P cf hx f env D) .mk) D.ex := by
  unfold wS wT
  rw [exS, Out.w_then]
  congr 1
  funext b env
  cases b <;> rfl
theorem wS_retV {i : Nat} : wS P cf hx (.ret (.var i)) env D = (match env[i]? with
    | some (some s) => if s.l then D.rt s.v 0 (env.set i (some { s with d := 0 })) else D.rt s.v s.d (env.set i none)
    | _ => False) := by
  unfold wS
  rw [exS]
  rcases h : env[i]? with _ | _ | s
  · simp only [h]; rfl
  · simp only [h]; rfl
  · simp only [h]
    unfold frz
    rw [h]
    obtain ⟨v, d, l⟩ := s
    cases l <;> rfl
theorem wS_ret {e : E} (hv : ∀ i, e ≠ .var i) : wS P cf hx (.ret e) env D = wA P cf hx false e env (fun a env => match a with
    | .val v d => D.rt v d env
    | .own j => cSt (.own j) env fun v env => D.rt v 0 env) D.ex := by
  have h : exS P cf hx (.ret e) env = (evA P cf hx false e env).then fun a env => match a with
      | .val v d => .ret v d env
      | .own _ => (settle a env).then fun v env => .ret v 0 env := by
    cases e <;> first
      | exact absurd rfl (hv _)
      | (rw [exS] <;> first | rfl | exact fun i z => hv i z)
  unfold wS wA
  rw [h, Out.w_then]
  congr 1
  funext a env
  cases a with
  | val v d => rfl
  | own j =>
    dsimp only
    rw [Out.w_then]
    unfold cSt
    rcases settle_ok (a := .own j) (env := env) with ⟨v, e, h⟩ | h <;> rw [h] <;> rfl
theorem wS_ret_glb {g : Nat} : wS P cf hx (.ret (.glb g)) env D = wA P cf hx false (.glb g) env (fun a env => match a with
    | .val v d => D.rt v d env
    | .own j => cSt (.own j) env fun v env => D.rt v 0 env) D.ex := wS_ret fun i z => by cases z
theorem wS_ret_cst {c : PV} : wS P cf hx (.ret (.cst c)) env D = wA P cf hx false (.cst c) env (fun a env => match a with
    | .val v d => D.rt v d env
    | .own j => cSt (.own j) env fun v env => D.rt v 0 env) D.ex := wS_ret fun i z => by cases z
theorem wS_ret_prim {p : Prim} {es : Es} : wS P cf hx (.ret (.prim p es)) env D = wA P cf hx false (.prim p es) env (fun a env => match a with
    | .val v d => D.rt v d env
    | .own j => cSt (.own j) env fun v env => D.rt v 0 env) D.ex := wS_ret fun i z => by cases z
theorem wS_ret_not {a : E} : wS P cf hx (.ret (.not_ a)) env D = wA P cf hx false (.not_ a) env (fun a env => match a with
    | .val v d => D.rt v d env
    | .own j => cSt (.own j) env fun v env => D.rt v 0 env) D.ex := wS_ret fun i z => by cases z
theorem wS_ret_bop {c : Bool} {es : Es} : wS P cf hx (.ret (.bop c es)) env D = wA P cf hx false (.bop c es) env (fun a env => match a with
    | .val v d => D.rt v d env
    | .own j => cSt (.own j) env fun v env => D.rt v 0 env) D.ex := wS_ret fun i z => by cases z
theorem wS_ret_chn {c c' : Cmp} {x y z : E} : wS P cf hx (.ret (.chn c c' x y z)) env D = wA P cf hx false (.chn c c' x y z) env (fun a env => match a with
    | .val v d => D.rt v d env
    | .own j => cSt (.own j) env fun v env => D.rt v 0 env) D.ex := wS_ret fun i z => by cases z
theorem wS_ret_call {f : Nat} {es : Es} : wS P cf hx (.ret (.call f es)) env D = wA P cf hx false (.call f es) env (fun a env => match a with
    | .val v d => D.rt v d env
    | .own j => cSt (.own j) env fun v env => D.rt v 0 env) D.ex := wS_ret fun i z => by cases z
theorem wS_ret_lc {elt : E} {tg : T} {it : I} {ifs : Es} {own : List Nat} : wS P cf hx (.ret (.lc elt tg it ifs own)) env D = wA P cf hx false (.lc elt tg it ifs own) env (fun a env => match a with
    | .val v d => D.rt v d env
    | .own j => cSt (.own j) env fun v env => D.rt v 0 env) D.ex := wS_ret fun i z => by cases z
theorem wS_ret_slc {x : E} {lo hi : Es} : wS P cf hx (.ret (.slc x lo hi)) env D = wA P cf hx false (.slc x lo hi) env (fun a env => match a with
    | .val v d => D.rt v d env
    | .own i => cSt (.own i) env fun v env => D.rt v 0 env) D.ex := wS_ret fun i h => by cases h
theorem wS_ret_exf {i : Nat} {f : Str} : wS P cf hx (.ret (.exf i f)) env D = wA P cf hx false (.exf i f) env (fun a env => match a with
    | .val v d => D.rt v d env
    | .own j => cSt (.own j) env fun v env => D.rt v 0 env) D.ex := wS_ret fun i z => by cases z
theorem wS_ret0 : wS P cf hx .ret0 env D = D.rt .non 0 env := by unfold wS; rw [exS]; rfl
theorem wS_raise {c : Nat} {e : E} : wS P cf none (.raise c e) env D = wA P cf none false e env (fun a env => cSt a env fun v env => D.ex c v env) D.ex := by
  unfold wS wA
  rw [exS, if_neg (by decide), Out.w_then]
  congr 1
  funext a env
  rw [Out.w_then]
  unfold cSt
  rcases settle_ok (a := a) (env := env) with ⟨v, e, h⟩ | h <;> rw [h] <;> rfl
theorem wS_raise0 {c : Nat} : wS P cf none (.raise0 c) env D = D.ex c .non env := by unfold wS; rw [exS]; rfl
theorem wS_brk : wS P cf hx .brk env D = D.bk env := by unfold wS; rw [exS]; rfl
theorem wS_cnt : wS P cf hx .cnt env D = D.ct env := by unfold wS; rw [exS]; rfl
/-! ### loops -/
theorem bigN_gt {n k : Nat} (h : n ≤ 2 ^ k) (hk : k < 2 ^ 20) : n < bigN := by
  unfold bigN
  exact Nat.lt_of_le_of_lt h (Nat.pow_lt_pow_right (by decide) hk)
theorem bigN_small {n : Nat} (h : n < 2 ^ 1000) : n < bigN := bigN_gt (Nat.le_of_lt h) (by decide)
theorem whl_w {test : Env → Out Bool} {body : Env → SO} {D : Cn} {I : Nat → Env → Prop}
    (step : ∀ n env, I n env → (test env).w (fun t env' => if t = true then (body env').w { D with nx := fun e => ∃ k, k < n ∧ I k e, ct := fun e => ∃ k, k < n ∧ I k e, bk := D.nx } else D.nx env') D.ex) :
    ∀ (N n : Nat) (env : Env), n < N → I n env → (whileLoop test body N env).w D
  | 0, n, env, h, _ => by omega
  | N + 1, n, env, h, hi => by
    have st := step n env hi
    rw [whileLoop]
    cases ht : test env with
    | stuck => rw [ht] at st; exact st
    | exc c v e => rw [ht] at st; exact st
    | ok t e =>
      rw [ht] at st
      have st : if t = true then _ else _ := st
      cases t with
      | false => exact st
      | true =>
        rw [if_pos rfl] at st
        dsimp only
        cases hb : body e with
        | next e2 =>
          rw [hb] at st
          obtain ⟨k, hk, hi⟩ := (st : ∃ k, k < n ∧ I k e2)
          exact whl_w step N k e2 (by omega) hi
        | cnt e2 =>
          rw [hb] at st
          obtain ⟨k, hk, hi⟩ := (st : ∃ k, k < n ∧ I k e2)
          exact whl_w step N k e2 (by omega) hi
        | brk e2 => rw [hb] at st; exact st
        | ret v d e2 => rw [hb] at st; exact st
        | exc c v e2 => rw [hb] at st; exact st
        | stuck => rw [hb] at st; exact st
theorem wS_whl {c : E} {b : Ss} (I : Nat → Env → Prop) (n0 : Nat) (hn : n0 < bigN) (h0 : I n0 env)
    (step : ∀ n env, I n env → wT P cf none c env (fun t env' => wIf t (wSs P cf none b env' { D with nx := fun e => ∃ k, k < n ∧ I k e, ct := fun e => ∃ k, k < n ∧ I k e, bk := D.nx }) (D.nx env') .mk) D.ex) : wH P cf none (.whl c b) env D mk := by
  unfold wH wS
  rw [exS, if_neg (by decide)]
  exact whl_w (I := I) step bigN n0 env hn h0
/-- the turns of a for -/
def fW (P : Prog) (cf : Nat → List Slot → CR) (t : T) (b : Ss) (D : Cn) : List PV → Env → Prop
  | [], env => D.nx env
  | x :: xs, env => cTg t x 0 env fun e => wSs P cf none b e { D with nx := fW P cf t b D xs, ct := fW P cf t b D xs, bk := D.nx }
theorem fW_nil {t : T} {b : Ss} : fW P cf t b D [] env = D.nx env := rfl
theorem fW_cons {t : T} {b : Ss} {x : PV} {xs : List PV} : fW P cf t b D (x :: xs) env = cTg t x 0 env fun e => wSs P cf none b e { D with nx := fW P cf t b D xs, ct := fW P cf t b D xs, bk := D.nx } := rfl
/-- .. the rest not looked into -/
def fV (P : Prog) (cf : Nat → List Slot → CR) (t : T) (b : Ss) (D : Cn) (xs : List PV) (env : Env) (m : Mark D) : Prop := fW P cf t b D xs env
theorem fV_nil {t : T} {b : Ss} : fV P cf t b D [] env mk = D.nx env := rfl
theorem fV_cons {t : T} {b : Ss} {x : PV} {xs : List PV} : fV P cf t b D (x :: xs) env mk = cTg t x 0 env fun e => wSs P cf none b e { D with nx := fun e => fV P cf t b D xs e .mk, ct := fun e => fV P cf t b D xs e .mk, bk := D.nx } := rfl
theorem for_w {t : T} {b : Ss} : ∀ (xs : List PV) (env : Env), (forLoop (fun x e => match tgt t x 0 e with | some e => exSs P cf none b e | none => .stuck) xs env).w D = fW P cf t b D xs env
  | [], env => rfl
  | x :: xs, env => by
    rw [forLoop, fW_cons]
    unfold cTg
    cases ht : tgt t x 0 env with
    | none => simp only [ht]; rfl
    | some e =>
      simp only [ht]
      unfold wSs
      cases hb : exSs P cf none b e <;> first | rfl | exact for_w xs _
theorem wS_for {t : T} {it : I} {b : Ss} : wS P cf none (.for_ t it b) env D = wI P cf none it env (fun xs env => fV P cf t b D xs env .mk) D.ex := by
  unfold wS wI
  rw [exS, if_neg (by decide), Out.w_then]
  congr 1
  funext xs env
  exact for_w xs env
theorem fW_inv {t : T} {b : Ss} (I : List PV → List PV → Env → Prop) (step : ∀ done x xs env, I done (x :: xs) env → cTg t x 0 env fun e => wSs P cf none b e { D with nx := fun e => I (done ++ [x]) xs e, ct := fun e => I (done ++ [x]) xs e, bk := D.nx })
    (last : ∀ done env, I done [] env → D.nx env) : ∀ (xs done : List PV) (env : Env), I done xs env → fW P cf t b D xs env
  | [], done, env, h => last done env h
  | x :: xs, done, env, h => by
    have := step done x xs env h
    rw [fW_cons]
    unfold cTg at this ⊢
    cases ht : tgt t x 0 env with
    | none => rw [ht] at this; exact this
    | some e =>
      rw [ht] at this
      unfold wSs at this ⊢
      dsimp only at this ⊢
      cases hb : exSs P cf none b e with
      | next e2 => rw [hb] at this; exact fW_inv I step last xs _ _ this
      | cnt e2 => rw [hb] at this; exact fW_inv I step last xs _ _ this
      | brk e2 => rw [hb] at this; exact this
      | ret v d e2 => rw [hb] at this; exact this
      | exc c v e2 => rw [hb] at this; exact this
      | stuck => rw [hb] at this; exact this
theorem fV_inv {t : T} {b : Ss} {xs : List PV} (I : List PV → List PV → Env → Prop) (h0 : I [] xs env) (step : ∀ done x xs env, I done (x :: xs) env → cTg t x 0 env fun e => wSs P cf none b e { D with nx := fun e => I (done ++ [x]) xs e, ct := fun e => I (done ++ [x]) xs e, bk := D.nx })
    (last : ∀ done env, I done [] env → D.nx env) : fV P cf t b D xs env mk := fW_inv I step last xs [] env h0
theorem wI_rng1 {e : E} {K : List PV → Env → Prop} : wI P cf hx (.rng (.cons e .nil)) env K X = wA P cf hx false e env (fun a env => cVl env a fun v => ∃ n, v = .int n ∧ rngOk n = true ∧ K (rangeL 0 n) env) X := by
  have h : wI P cf hx (.rng (.cons e .nil)) env K X = wAs P cf hx (.cons e .nil) [] env (fun as env => ((match resolves env as with
    | some [.int n] => if rngOk n then .ok (rangeL 0 n) env else .stuck
    | some [.int a, .int b] => if rngOk a && rngOk b then .ok (rangeL a b) env else .stuck
    | some [.int a, .int b, .int c] => if rngOk3 a b c then .ok (rangeS a b c) env else .stuck
    | _ => .stuck : Out (List PV))).w K X) X := by
    unfold wI wAs
    rw [evI, Out.w_bind] <;> rfl
  rw [h, wAs_cons]
  congr 1
  funext a env
  have key : ∀ (a : AV) (env : Env), ((match resolves env [a] with
    | some [.int n] => if rngOk n then .ok (rangeL 0 n) env else .stuck
    | some [.int a, .int b] => if rngOk a && rngOk b then .ok (rangeL a b) env else .stuck
    | some [.int a, .int b, .int c] => if rngOk3 a b c then .ok (rangeS a b c) env else .stuck
    | _ => .stuck : Out (List PV))).w K X = cVl env a fun v => ∃ n, v = .int n ∧ rngOk n = true ∧ K (rangeL 0 n) env := fun a env => by
    unfold cVl
    simp only [resolves]
    cases resolve env a with
    | none => rfl
    | some v =>
      cases v <;> simp [Out.w]
      rename_i n
      cases hr : rngOk n <;> simp
  cases a with
  | val v d =>
    rw [cAc_val, wAs_nil]
    exact key _ _
  | own i =>
    rw [cAc_own' (by rfl), wAs_nil]
    exact key _ _

/-- a range's ends -/
def cRg (vs : List PV) (K : List PV → Prop) : Prop := match vs with
  | [.int n] => wAsk (rngOk n = true) (K (rangeL 0 n)) .mk
  | [.int a, .int b] => wAsk (rngOk a = true ∧ rngOk b = true) (K (rangeL a b)) .mk
  | [.int a, .int b, .int c] => wAsk (rngOk3 a b c = true) (K (rangeS a b c)) .mk
  | _ => False
theorem cRg_2 {a b : Int} {K : List PV → Prop} : cRg [.int a, .int b] K = wAsk (rngOk a = true ∧ rngOk b = true) (K (rangeL a b)) .mk := rfl
theorem cRg_3 {a b c : Int} {K : List PV → Prop} : cRg [.int a, .int b, .int c] K = wAsk (rngOk3 a b c = true) (K (rangeS a b c)) .mk := rfl
theorem rngOk_of {n : Int} (h : -(2 ^ 62) ≤ n ∧ n < 2 ^ 62) : rngOk n = true := by
  unfold rngOk
  rw [decide_eq_true h.1, decide_eq_true h.2]
  exact rfl
theorem rngOk3_of {a b c : Int} (h : -(2 ^ 60) ≤ a ∧ a < 2 ^ 60 ∧ -(2 ^ 60) ≤ b ∧ b < 2 ^ 60 ∧ 0 < c ∧ c < 2 ^ 30) : rngOk3 a b c = true := decide_eq_true h
theorem wI_rngG {es : Es} {K : List PV → Env → Prop} : wI P cf hx (.rng es) env K X = wAs P cf hx es [] env (fun as env => cVls env as fun vs => cRg vs fun xs => K xs env) X := by
  unfold wI wAs
  rw [evI, Out.w_bind]
  congr 1
  funext as env
  rw [cVls_eq]
  cases resolves env as with
  | none => rfl
  | some vs =>
    dsimp only
    unfold cRg wAsk
    split
    · rename_i n h
      cases h
      dsimp only
      cases rngOk n <;> simp [Out.w]
    · rename_i a b h
      cases h
      dsimp only
      cases rngOk a <;> cases rngOk b <;> simp [Out.w]
    · rename_i a b c h
      cases h
      dsimp only
      cases rngOk3 a b c <;> simp [Out.w]
    · rename_i h1 h2 h3
      split
      · exact absurd rfl (h1 _)
      · exact absurd rfl (h2 _ _)
      · exact absurd rfl (h3 _ _ _)
      · rfl
theorem wI_rng2 {a b : E} {K : List PV → Env → Prop} : wI P cf hx (.rng (.cons a (.cons b .nil))) env K X = wAs P cf hx (.cons a (.cons b .nil)) [] env (fun as env => cVls env as fun vs => cRg vs fun xs => K xs env) X := wI_rngG
theorem wI_rng3 {a b c : E} {K : List PV → Env → Prop} : wI P cf hx (.rng (.cons a (.cons b (.cons c .nil)))) env K X = wAs P cf hx (.cons a (.cons b (.cons c .nil))) [] env (fun as env => cVls env as fun vs => cRg vs fun xs => K xs env) X := wI_rngG

/-! ### comprehensions -/
def cW (hx : Option (Nat × Nat × PV)) (P : Prog) (cf : Nat → List Slot → CR) (elt : E) (tg : T) (ifs : Es) (own : List Nat) (K : List PV → Env → Prop) : List PV → List PV → Env → Prop
  | [], acc, env => K acc env
  | x :: xs, acc, env => cTg tg x 0 env fun e => wTs P cf hx ifs e (fun b e => wIf b (wA P cf hx false elt e (fun a e => cSt a e fun v e => wAsk (acc.length < sizeMax) (cW hx P cf elt tg ifs own K xs (acc ++ [v]) (clr e own)) .mk) fun _ _ _ => False) (cW hx P cf elt tg ifs own K xs acc (clr e own)) .mk) fun _ _ _ => False
section
variable {elt : E} {tg : T} {ifs : Es} {own : List Nat} {L : List PV → Env → Prop}
theorem cW_nil {acc : List PV} : cW hx P cf elt tg ifs own L [] acc env = L acc env := rfl
theorem cW_cons {acc : List PV} {x : PV} {xs : List PV} : cW hx P cf elt tg ifs own L (x :: xs) acc env = cTg tg x 0 env fun e => wTs P cf hx ifs e (fun b e => wIf b (wA P cf hx false elt e (fun a e => cSt a e fun v e => wAsk (acc.length < sizeMax) (cW hx P cf elt tg ifs own L xs (acc ++ [v]) (clr e own)) .mk) fun _ _ _ => False) (cW hx P cf elt tg ifs own L xs acc (clr e own)) .mk) fun _ _ _ => False := rfl
theorem comp_w : ∀ (xs acc : List PV) (env : Env), cW hx P cf elt tg ifs own L xs acc env → ∃ ys e, compLoop (fun x e => match tgt tg x 0 e with
        | some e => match evTs P cf hx ifs e with
          | .ok true e => match evA P cf hx false elt e with
            | .ok a e => match settle a e with
              | .ok v e => some (some v, clr e own)
              | _ => none
            | _ => none
          | .ok false e => some (none, clr e own)
          | _ => none
        | none => none) xs acc env = some (ys, e) ∧ L ys e
  | [], acc, env, h => ⟨acc, env, rfl, h⟩
  | x :: xs, acc, env, h => by
    rw [cW_cons] at h
    unfold cTg at h
    rw [compLoop]
    cases ht : tgt tg x 0 env with
    | none => rw [ht] at h; exact h.elim
    | some e =>
      rw [ht] at h
      unfold wTs at h
      dsimp only at h ⊢
      cases hb : evTs P cf hx ifs e with
      | stuck => rw [hb] at h; exact h.elim
      | exc c v e2 => rw [hb] at h; exact h.elim
      | ok b e2 =>
        rw [hb] at h
        have h : wIf b _ _ .mk := h
        cases b with
        | false =>
          rw [wIf_f] at h
          exact comp_w xs acc _ h
        | true =>
          rw [wIf_t] at h
          unfold wA at h
          dsimp only
          cases hc : evA P cf hx false elt e2 with
          | stuck => rw [hc] at h; exact h.elim
          | exc c v e2 => rw [hc] at h; exact h.elim
          | ok a e3 =>
            rw [hc] at h
            have h : cSt a e3 _ := h
            unfold cSt at h
            dsimp only
            rcases settle_ok (a := a) (env := e3) with ⟨v, e4, hs⟩ | hs
            · rw [hs] at h ⊢
              obtain ⟨hz, h⟩ := h
              dsimp only
              rw [if_pos hz]
              exact comp_w xs _ _ h
            · rw [hs] at h; exact h.elim
def cV (hx : Option (Nat × Nat × PV)) (P : Prog) (cf : Nat → List Slot → CR) (elt : E) (tg : T) (ifs : Es) (own : List Nat) (K : List PV → Env → Prop) (xs acc : List PV) (env : Env) (m : Mark K) : Prop := cW hx P cf elt tg ifs own K xs acc env
theorem cV_nil {acc : List PV} {mk : Mark L} : cV hx P cf elt tg ifs own L [] acc env mk = L acc env := rfl
theorem cV_cons {acc : List PV} {x : PV} {xs : List PV} {mk : Mark L} : cV hx P cf elt tg ifs own L (x :: xs) acc env mk = cTg tg x 0 env fun e => wTs P cf hx ifs e (fun b e => wIf b (wA P cf hx false elt e (fun a e => cSt a e fun v e => wAsk (acc.length < sizeMax) (cV hx P cf elt tg ifs own L xs (acc ++ [v]) (clr e own) .mk) .mk) fun _ _ _ => False) (cV hx P cf elt tg ifs own L xs acc (clr e own) .mk) .mk) fun _ _ _ => False := rfl
theorem Out.w_mono {α : Type} {o : Out α} {K K' : α → Env → Prop} {X X' : KX} (h : o.w K X) (h1 : ∀ a e, K a e → K' a e) (h2 : ∀ c v e, X c v e → X' c v e) : o.w K' X' := by
  cases o with
  | ok a e => exact h1 _ _ h
  | exc c v e => exact h2 _ _ _ h
  | stuck => exact h
/-- a comprehension over a list: what holds of the rest, of what is made, of the names -/
theorem cV_ind (I : List PV → List PV → Env → Prop) (step : ∀ x rest acc env, I (x :: rest) acc env → cTg tg x 0 env fun e => wTs P cf hx ifs e (fun b e => wIf b (wA P cf hx false elt e (fun a e => cSt a e fun v e => wAsk (acc.length < sizeMax) (I rest (acc ++ [v]) (clr e own)) .mk) fun _ _ _ => False) (I rest acc (clr e own)) .mk) fun _ _ _ => False)
    (last : ∀ acc env, I [] acc env → L acc env) : ∀ (xs acc : List PV) (env : Env) {mk : Mark L}, I xs acc env → cV hx P cf elt tg ifs own L xs acc env mk
  | [], acc, env, mk, h => last acc env h
  | x :: xs, acc, env, mk, h => by
    have st := step x xs acc env h
    rw [cV_cons]
    unfold cTg at st ⊢
    cases ht : tgt tg x 0 env with
    | none => rw [ht] at st; exact st
    | some e =>
      rw [ht] at st
      unfold wTs at st ⊢
      refine Out.w_mono st (fun b e h => ?_) (fun _ _ _ h => h)
      cases b with
      | false =>
        rw [wIf_f] at h ⊢
        exact cV_ind I step last xs acc _ h
      | true =>
        rw [wIf_t] at h ⊢
        unfold wA at h ⊢
        refine Out.w_mono h (fun a e h => ?_) (fun _ _ _ h => h)
        unfold cSt at h ⊢
        refine Out.w_mono h (fun v e h => ?_) (fun _ _ _ h => h)
        exact ⟨h.1, cV_ind I step last xs _ _ h.2⟩
/-- a comprehension waits for a rule -/
def wL (hx : Option (Nat × Nat × PV)) (P : Prog) (cf : Nat → List Slot → CR) (e : E) (env : Env) (K : AV → Env → Prop) (X : KX) (m : Mark (PProd.mk K X)) : Prop := wA P cf hx false e env K X
theorem wL_lc {it : I} : wA P cf hx false (.lc elt tg it ifs own) env K X = wL hx P cf (.lc elt tg it ifs own) env K X .mk := rfl
theorem wA_lcH {it : I} {mk : Mark (PProd.mk K X)} (hb : lcBad hx tg it own = false) (h : wI P cf hx it env (fun xs env => match wipeE env own with | some env1 => cV hx P cf elt tg ifs own (fun ys env2 => K (.val (.lst ys) 1) (unwipe env env2 own)) xs [] env1 .mk | none => False) X) : wL hx P cf (.lc elt tg it ifs own) env K X mk := by
  unfold wI at h
  unfold wL wA
  rw [evA, if_neg (by rw [hb]; decide), Out.w_bind]
  cases hi : evI P cf hx it env with
  | stuck => rw [hi] at h; exact h
  | exc c v e => rw [hi] at h; exact h
  | ok xs e =>
    rw [hi] at h
    show Out.w (match wipeE e own with | some env1 => _ | none => _) K X
    have h : (match wipeE e own with | some env1 => cW hx P cf elt tg ifs own (fun ys env2 => K (.val (.lst ys) 1) (unwipe e env2 own)) xs [] env1 | none => False) := h
    cases hw : wipeE e own with
    | none => rw [hw] at h; exact h.elim
    | some env1 =>
      rw [hw] at h
      obtain ⟨ys, e2, hc, hL⟩ := comp_w xs [] env1 h
      exact Eq.mpr (congrArg (fun z => Out.w (match z with | some (ys, env2) => .ok (AV.val (.lst ys) 1) (unwipe e env2 own) | none => .stuck) K X) hc) hL
theorem wA_lc {it : I} {mk : Mark (PProd.mk K X)} (h : wI P cf none it env (fun xs env => match wipeE env own with | some env1 => cV none P cf elt tg ifs own (fun ys env2 => K (.val (.lst ys) 1) (unwipe env env2 own)) xs [] env1 .mk | none => False) X) : wL none P cf (.lc elt tg it ifs own) env K X mk := wA_lcH rfl h
end
/-! ### try -/
def cHd (o : Option (Option Slot)) (A : Prop) : Prop := match o with
  | some (some s) => if s.l ∨ s.d ≠ 0 then False else A
  | some none => A
  | none => False
theorem cHd_n {A : Prop} : cHd (some none) A = A := rfl
theorem cHd_f {A : Prop} {v : PV} : cHd (some (some ⟨v, 0, false⟩)) A = A := by unfold cHd; simp
theorem handled_w {i : Nat} {o : SO} : (handled i o).w D = o.w { nx := fun e => D.nx (e.set i none), rt := fun v d e => D.rt v d (e.set i none), bk := fun e => D.bk (e.set i none), ct := fun e => D.ct (e.set i none) } := by
  cases o <;> rfl
theorem wS_try {b h : Ss} {k i : Nat} : wS P cf none (.tryAs b k i h) env D = wSs P cf none b env { D with ex := fun c v env => wAsk (c < P.cls.length) (wIf (isUp P c k) (cHd env[i]? (wSs P cf (some (i, c, v)) h (env.set i (some ⟨.opq, 0, true⟩)) { nx := fun e => D.nx (e.set i none), rt := fun v d e => D.rt v d (e.set i none), bk := fun e => D.bk (e.set i none), ct := fun e => D.ct (e.set i none) })) (D.ex c v env) .mk) .mk } := by
  unfold wS wSs
  rw [exS, if_neg (by decide)]
  cases hb : exSs P cf none b env with
  | exc c v e =>
    show SO.w (if P.cls.length ≤ c then _ else _) D = wAsk (c < P.cls.length) _ .mk
    unfold wAsk
    by_cases hc : P.cls.length ≤ c
    · rw [if_pos hc]
      have : ¬ c < P.cls.length := by omega
      simp [this, SO.w]
    · rw [if_neg hc]
      have : c < P.cls.length := by omega
      simp only [this, true_and]
      cases hu : isUp P c k with
      | false => rw [wIf_f, if_neg (by decide)]; rfl
      | true =>
        rw [wIf_t, if_pos rfl]
        unfold cHd
        rcases he : e[i]? with _ | _ | s
        · simp only [he]; rfl
        · simp only [he]; rw [handled_w]
        · simp only [he]
          by_cases hs : s.l = true ∨ s.d ≠ 0
          · rw [if_pos hs, if_pos hs]; rfl
          · rw [if_neg hs, if_neg hs, handled_w]
  | _ => rfl
/-! ### a def by its body -/
theorem fn_w {n f : Nat} {fn : Fn} {ss : List Slot} {K : PV → Nat → List (PV × Nat) → Prop} {X : Nat → PV → List (PV × Nat) → Prop} {m : Mark (PProd.mk K X)} (hf : P.fns[f]? = some fn) (hl : ss.length = fn.np)
    (h : wSs P (callAt P n) none fn.body (ss.map some ++ List.replicate (fn.locals.length - fn.np) none) { nx := fun e => K .non 0 (finals fn.np e), rt := fun v d e => K v d (finals fn.np e), ex := fun c v e => X c v (finals fn.np e) }) :
    CR.w (callAt P (n + 1) f ss) K X m := by
  rw [callAt, hf]
  dsimp only
  rw [if_pos hl]
  unfold wSs at h
  cases ho : exSs P (callAt P n) none fn.body (ss.map some ++ List.replicate (fn.locals.length - fn.np) none) with
  | next e => rw [ho] at h; exact h
  | ret v d e => rw [ho] at h; exact h
  | exc c v e => rw [ho] at h; exact h
  | brk e => rw [ho] at h; exact h
  | cnt e => rw [ho] at h; exact h
  | stuck => rw [ho] at h; exact h
theorem CR.of_w {o : CR} {b : Bool} {m : Mark (PProd.mk _ _)} (h : CR.w o (fun v _ _ => v = .bl b) (fun _ _ _ => False) m) : ∃ d ps, o = .ret (.bl b) d ps := by
  cases o with
  | ret v d ps => exact ⟨d, ps, by rw [show v = .bl b from h]⟩
  | exc c v ps => exact h.elim
  | stuck => exact h.elim
theorem finals_eq {n : Nat} {e : Env} : finals (n + 1) e = finals n e ++ [match e[n]? with | some (some s) => (s.v, s.d) | _ => (.non, 0)] := by
  unfold finals
  rw [List.range_succ, List.map_append]
  rfl
theorem finals_some {n : Nat} {e : Env} {v : PV} {d : Nat} {l : Bool} : finals (n + 1) (some ⟨v, d, l⟩ :: e) = (v, d) :: finals n e := by
  unfold finals
  rw [List.range_succ_eq_map, List.map_cons, List.map_map]
  rfl
theorem finals_none {n : Nat} {e : Env} : finals (n + 1) (none :: e) = (.non, 0) :: finals n e := by
  unfold finals
  rw [List.range_succ_eq_map, List.map_cons, List.map_map]
  rfl
theorem finals_0 {e : Env} : finals 0 e = [] := rfl
end
end MP
set_option Elab.async false
set_option linter.all false
set_option maxRecDepth 100000
set_option maxHeartbeats 1000000
/-! M19: what all laws share: the pool, the draws. -/
namespace MP
open PySem
theorem mulOk_of {i j : Int} (hi : -(2 ^ 250) < i ∧ i < 2 ^ 250) (hj : -(2 ^ 250) < j ∧ j < 2 ^ 250) : mulOk i j = true := by
  have key : ∀ i : Int, -(2 ^ 250) < i ∧ i < 2 ^ 250 → i.natAbs.log2 < 251 := fun i h => by
    by_cases z : i.natAbs = 0
    · rw [z]; decide
    · rw [Nat.log2_lt z]
      have : i.natAbs < 2 ^ 250 := by omega
      omega
  unfold mulOk
  have h1 := key i hi
  have h2 := key j hj
  exact decide_eq_true (by omega)
theorem divOk_of {j : Int} (h0 : 0 < j) (hj : j < 2 ^ 250) : divOk j = true := by
  have : j.natAbs.log2 < 251 := by
    rw [Nat.log2_lt (by omega)]
    omega
  unfold divOk
  rw [decide_eq_true h0, decide_eq_true (by omega)]
  rfl
theorem log2_pw {i : Int} {a : Nat} (h0 : 0 ≤ i) (h : i < 2 ^ a) : i.natAbs.log2 ≤ a := by
  by_cases z : i.natAbs = 0
  · rw [z]; exact Nat.zero_le _
  · have h2 : i.natAbs < 2 ^ a := by
      have : ((i.natAbs : Nat) : Int) < ((2 ^ a : Nat) : Int) := by
        rw [Int.natAbs_of_nonneg h0, Int.natCast_pow]
        exact h
      omega
    have := (Nat.log2_lt z).mpr h2
    omega
theorem mulOk_pw {i j : Int} {a b : Nat} (hi : 0 ≤ i ∧ i < 2 ^ a) (hj : 0 ≤ j ∧ j < 2 ^ b) (h : a + b ≤ 900000) : mulOk i j = true := by
  have h1 := log2_pw hi.1 hi.2
  have h2 := log2_pw hj.1 hj.2
  unfold mulOk
  exact decide_eq_true (by omega)
theorem divOk_pw {j : Int} {a : Nat} (h0 : 0 < j) (hj : j < 2 ^ a) (ha : a < 9000) : divOk j = true := by
  have h1 := log2_pw (by omega) hj
  unfold divOk
  rw [decide_eq_true h0, decide_eq_true (by omega)]
  rfl
theorem bigN_int {b : Int} {k : Nat} (h : b < 2 ^ k) (hk : k < 2 ^ 20) : b.toNat < bigN := by
  refine bigN_gt (k := k) (Int.toNat_le.mpr ?_) hk
  rw [Int.natCast_pow]
  exact Int.le_of_lt h
theorem peq_intsA : ∀ ns ms : List Int, PyData.eqvAll (toDs (ns.map PV.int)) (toDs (ms.map PV.int)) = decide (ns = ms)
  | [], [] => rfl
  | [], _ :: _ => rfl
  | _ :: _, [] => rfl
  | n :: ns, m :: ms => by
    show ((n == m) && PyData.eqvAll (toDs (ns.map PV.int)) (toDs (ms.map PV.int))) = _
    rw [peq_intsA ns ms]
    by_cases h1 : n = m <;> by_cases h2 : ns = ms <;> simp [h1, h2]
theorem peq_ints (ns ms : List Int) : peq (.lst (ns.map PV.int)) (.lst (ms.map PV.int)) = decide (ns = ms) := peq_intsA ns ms
theorem peq_intsT (ns ms : List Int) : peq (.tup (ns.map PV.int)) (.tup (ms.map PV.int)) = decide (ns = ms) := peq_intsA ns ms
def f_draw : Fn where
  name := "_law_draw"
  np := 2
  locals := ["pool", "many", "digit"]
  body := .cons (.ifs (.prim (.cmp .gt) (.cons (.prim .ix (.cons (.var 0) (.cons (.cst (.int 0)) .nil))) (.cons (.cst (.int 0)) .nil))) (.cons (.asg (.nm 2) (.prim (.op .mod) (.cons (.prim .toInt (.cons (.prim .ix (.cons (.var 0) (.cons (.cst (.int 0)) .nil))) .nil)) (.cons (.var 1) .nil)))) (
      .cons (.setix 0 (.cst (.int 0)) (.prim (.op .fdiv) (.cons (.prim .ix (.cons (.var 0) (.cons (.cst (.int 0)) .nil))) (.cons (.var 1) .nil)))) (
      .cons (.ret (.var 2)) .nil))) (.nil)) (
    .cons (.setix 0 (.cst (.int 1)) (.prim (.op .mod) (.cons (.prim .toInt (.cons (.prim (.op .add) (.cons (.prim (.op .mul) (.cons (.prim .ix (.cons (.var 0) (.cons (.cst (.int 1)) .nil))) (.cons (.cst (.int 16807)) .nil))) (.cons (.cst (.int 12345)) .nil))) .nil)) (.cons (.cst (.int 2147483647)) .nil)))) (
    .cons (.ret (.prim (.op .mod) (.cons (.prim .toInt (.cons (.prim (.op .fdiv) (.cons (.prim .ix (.cons (.var 0) (.cons (.cst (.int 1)) .nil))) (.cons (.cst (.int 64)) .nil))) .nil)) (.cons (.var 1) .nil)))) .nil))
def Pool (p0 p1 : Int) : Prop := (0 ≤ p0 ∧ p0 < 10 ^ 60) ∧ -(2 ^ 70) < p1 ∧ p1 < 2 ^ 70
local macro_rules | `(tactic| infer_instance) => `(tactic| simp only [↓wSs_nil, ↓wSs_cons, ↓wS_asg, ↓wS_asgT, ↓wS_par, ↓wS_exp, ↓wS_ifs, ↓wS_ret0, ↓wS_raise, ↓wS_raise0, ↓wS_brk, ↓wS_cnt, ↓wS_retV, ↓wS_ret_glb, ↓wS_ret_cst, ↓wS_ret_prim, ↓wS_ret_not, ↓wS_ret_bop, ↓wS_ret_chn, ↓wS_ret_call, ↓wS_ret_lc, ↓wS_ret_exf, ↓wS_ret_slc, ↓wS_for, ↓wS_try, ↓wA_var, ↓wA_glb, ↓wA_cst, ↓wA_op, ↓wA_cmp, ↓wA_neg, ↓wA_ix, ↓wA_len, ↓wA_toInt, ↓wA_abs, ↓wA_toTup, ↓wA_toLst, ↓wA_isi, ↓wA_bits, ↓wA_fmtB, ↓wA_rev, ↓wA_cnt, ↓wA_sset, ↓wA_lrng, ↓wA_sorted, ↓wA_min, ↓wA_max, ↓wA_tup, ↓wA_lst, ↓wA_not, ↓wA_bop, ↓wB_1, ↓wB_2, ↓wA_chn, ↓wA_chn3, ↓wA_exi, ↓wA_exv, ↓wA_slc, ↓wP_nil, ↓wP_one, ↓wA_call, ↓wA_exf, ↓wAs_nil, ↓wAs_cons, ↓wI_ex, ↓wI_rng1, ↓wI_rng2, ↓wI_rng3, ↓cRg_2, ↓cRg_3, ↓wT_eq, ↓wTs_nil, ↓wTs_cons, ↓cRd_0, ↓cRd_1, ↓cVl_val, ↓cVl_own, ↓cOw_0, ↓cOw_1, ↓cVls_nil, ↓cVls_cons, ↓cSt_val, ↓cSt_own, ↓cSo_eq, ↓cSts_nil, ↓cSts_cons, ↓cAc_val, ↓cTr_bl, ↓cTr_int, ↓cTr_lst, ↓cTr_tup, ↓cTr_scr, ↓cTr_non, ↓cPr_add, ↓cPr_sub, ↓cPr_mul, ↓cPr_mulL, ↓cPr_addL, ↓cPr_addZ, ↓cPr_fdiv, ↓cPr_mod, ↓cPr_pow, ↓cPr_shl, ↓cPr_shr, ↓cPr_neg, ↓cPr_lt, ↓cPr_le, ↓cPr_gt, ↓cPr_ge, ↓cPr_eqI, ↓cPr_neI, ↓cPr_eq, ↓cPr_ne, ↓cPr_tup, ↓cPr_lst, ↓cIx_eq, ↓cIx_eqL, ↓cIx_eqS, ↓cIx_eqZ, ↓cIx_0, ↓cIx_1, ↓cIx_2, ↓cIx_3, ↓cIx_4, ↓cIx_5, ↓cIx_6, ↓cIx_7, ↓cPr_lenL, ↓cPr_lenT, ↓cPr_lenS, ↓cPr_lenZ, ↓cPr_bits, ↓cPr_fmtB, ↓cPr_rev, ↓cPr_cnt, ↓cPr_lrng, ↓cPr_band, ↓cPr_bor, ↓cPr_sset, ↓cPr_toInt, ↓cPr_toIntB, ↓cPr_abs, ↓cPr_toLstL, ↓cPr_toLstT, ↓cPr_toTupL, ↓cPr_toTupT, ↓cPr_min, ↓cPr_max, ↓cPr_sorted, ↓cPr_inI2, ↓cPr_ninI2, ↓cPr_inZ, ↓cPr_ninZ, ↓cSg_1, ↓cPr_inT2, ↓cPr_ninT2, ↓cPr_isiI, ↓cPr_isiB, ↓cPr_isiN, ↓cPr_isiT, ↓cPr_isiL, ↓cPr_isiS, ↓cPr_isN, ↓cPr_isI, ↓cPr_isT, ↓cPr_isL, ↓cPr_inN, ↓cPr_inI, ↓cPr_inT, ↓cPr_inL, ↓cIn_int, ↓cCut_lst, ↓cCut_str, ↓cCm_lt, ↓cCm_le, ↓cCm_gt, ↓cCm_ge, ↓cGl_eq, ↓cLe_nil, ↓cLe_val, ↓cLe_own, ↓cLo_eq, ↓cTg_nm, ↓cTg_tup, ↓cTo_n, ↓cTo_f, ↓cTgs_nil, ↓cTgs_cons, ↓cPa_nil, ↓cPa_cons, ↓cLs_eq, ↓cHd_n, ↓cHd_f, ↓wIf_t, ↓wIf_f, ↓wAsk_true, ↓cAc_own, ↓cFz_eq, ↓fV_nil, ↓fV_cons, ↓cV_nil, ↓cV_cons, ↓cSx_0, ↓cSx_1, ↓wH_app, ↓wH_setix, ↓wH_whl, ↓wL_lc, ↓cIt_tup, ↓cIt_lst, ↓cIt_str, ↓cIt_scr, ↓wI_enu, ↓cIe_lst, ↓cIe_str, ↓cIe_scr, Option.getD_some, Option.getD_none, Bool.or_true, Bool.true_or, Bool.or_false, Bool.false_or, reduceCtorEq, Nat.reduceSub, Int.cast_ofNat_Int, Int.natCast_zero, Int.natCast_one, okD_int, okD_bl, okD_non, okD_nilL, okD_nilT, peq_nilL, peq_nilT, peq_int, peq_str, peq_bl, okD_bls2, peq_bls2, okD_bls3, peq_bls3, okD_str, dneN, Nat.reduceBEq, Nat.reduceAdd, Nat.reduceLeDiff, sizeMax, Nat.zero_add, Int.reduceToNat, Int.reducePow, Int.reduceSub, Int.reduceAdd, Int.reduceMul, Int.reduceNeg, Int.reduceLT, Int.reduceLE, Int.reduceEq, beq_true, beq_false, wIf_n, wIf_t, wIf_f, wAsk_true, back, List.set_cons_zero, List.set_cons_succ, List.getElem?_cons_zero, List.getElem?_cons_succ, List.nil_append, List.cons_append, List.map_cons, List.map_nil, List.replicate_zero, List.replicate_succ, List.length_cons, List.length_nil, noLent, List.all_nil, List.all_cons, finals_some, finals_none, finals_0, Bool.and_true, Bool.true_and, Bool.not_true, Bool.not_false, decide_true, decide_false, Bool.false_eq_true, ite_true, ite_false, if_true, if_false, and_self, and_true, true_and, eq_self, clr, unwipe, wipeE])
local macro_rules | `(tactic| left) => `(tactic| first | (with_reducible assumption) | (with_reducible refine mulOk_of ⟨?_, ?_⟩ ⟨?_, ?_⟩ <;> omega) | (with_reducible refine divOk_of ?_ ?_ <;> omega) | omega | (with_reducible refine rngOk3_of ?_; omega) | (with_reducible refine ⟨rngOk_of ?_, rngOk_of ?_⟩ <;> omega) | (simp only [List.length_cons, List.length_nil, sizeMax]; omega))
local macro_rules | `(tactic| and_intros) => `(tactic| repeat (first | infer_instance | ((with_reducible refine wAsk_of ?_ ?_); (focus left)) | with_reducible refine wS_setix ?_ | with_reducible refine wS_app ?_))

theorem draw_w {P : Prog} {n f : Nat} {p0 p1 m : Int} {l : Bool} {K : PV → Nat → List (PV × Nat) → Prop} {X : Nat → PV → List (PV × Nat) → Prop} {mk : Mark (PProd.mk K X)} (hf : P.fns[f]? = some f_draw) (hp : Pool p0 p1) (hm : 0 < m ∧ m < 2 ^ 250)
    (h : ∀ r q0 q1, 0 ≤ r → r < m → Pool q0 q1 → K (.int r) 0 [(.lst [.int q0, .int q1], 1), (.int m, 0)]) : CR.w (callAt P (n + 1) f [⟨.lst [.int p0, .int p1], 1, l⟩, ⟨.int m, 0, false⟩]) K X mk := by
  refine fn_w (fn := f_draw) hf rfl ?_
  obtain ⟨⟨a1, a2⟩, a3, a4⟩ := hp
  obtain ⟨m1, m2⟩ := hm
  simp only [f_draw]
  and_intros
  refine wIf_of (fun h1 => ?_) (fun h1 => ?_)
  · and_intros
    refine h _ _ _ (Int.emod_nonneg _ (by omega)) (Int.emod_lt_of_pos _ m1) ⟨⟨Int.ediv_nonneg (by omega) (by omega), ?_⟩, a3, a4⟩
    exact Int.lt_of_le_of_lt (Int.ediv_le_self _ a1) a2
  · and_intros
    refine h _ _ _ (Int.emod_nonneg _ (by omega)) (Int.emod_lt_of_pos _ m1) ⟨⟨a1, a2⟩, ?_, ?_⟩ <;> omega
def f_pool : Fn where
  name := "_law_pool"
  np := 2
  locals := ["script", "k", "cell", "mixed"]
  body := .cons (.asg (.nm 2) (.cst (.int 0))) (
    .cons (.ifs (.prim (.cmp .gt) (.cons (.prim .len (.cons (.var 0) .nil)) (.cons (.cst (.int 0)) .nil))) (.cons (.asg (.nm 2) (.prim (.op .mod) (.cons (.prim .toInt (.cons (.prim .ix (.cons (.var 0) (.cons (.prim (.op .mod) (.cons (.var 1) (.cons (.prim .len (.cons (.var 0) .nil)) .nil))) .nil))) .nil)) (.cons (.prim (.op .pow) (.cons (.cst (.int 10)) (.cons (.cst (.int 60)) .nil))) .nil)))) .nil) (.nil)) (
    .cons (.ifs (.bop true (.cons (.prim (.cmp .lt) (.cons (.var 1) (.cons (.prim .len (.cons (.var 0) .nil)) .nil))) (.cons (.prim (.cmp .le) (.cons (.prim (.op .pow) (.cons (.cst (.int 10)) (.cons (.cst (.int 18)) .nil))) (.cons (.var 2) .nil))) (.cons (.prim (.cmp .lt) (.cons (.var 2) (.cons (.prim (.op .sub) (.cons (.prim (.op .pow) (.cons (.cst (.int 10)) (.cons (.cst (.int 60)) .nil))) (.cons (.prim (.op .pow) (.cons (.cst (.int 10)) (.cons (.cst (.int 18)) .nil))) .nil))) .nil))) .nil)))) (.cons (.ret (.prim .lst (.cons (.var 2) (.cons (.var 1) .nil)))) .nil) (.nil)) (
    .cons (.asg (.nm 3) (.prim (.op .mod) (.cons (.prim .toInt (.cons (.prim (.op .add) (.cons (.prim (.op .add) (.cons (.prim (.op .mul) (.cons (.var 2) (.cons (.cst (.int 48271)) .nil))) (.cons (.prim (.op .mul) (.cons (.var 1) (.cons (.cst (.int 69621)) .nil))) .nil))) (.cons (.cst (.int 7)) .nil))) .nil)) (.cons (.cst (.int 2147483647)) .nil)))) (
    .cons (.ret (.prim .lst (.cons (.cst (.int 0)) (.cons (.prim (.op .mod) (.cons (.prim .toInt (.cons (.prim (.op .add) (.cons (.prim (.op .add) (.cons (.prim (.op .mul) (.cons (.var 3) (.cons (.var 3) .nil))) (.cons (.prim (.op .mul) (.cons (.cst (.int 5)) (.cons (.var 1) .nil))) .nil))) (.cons (.cst (.int 3)) .nil))) .nil)) (.cons (.cst (.int 2147483647)) .nil))) .nil)))) .nil))))
theorem pool_w {P : Prog} {n f : Nat} {ns : List Int} {k : Int} {l : Bool} {K : PV → Nat → List (PV × Nat) → Prop} {X : Nat → PV → List (PV × Nat) → Prop} {mk : Mark (PProd.mk K X)} (hf : P.fns[f]? = some f_pool) (hk : 0 ≤ k ∧ k < 2 ^ 30)
    (h : ∀ q0 q1, Pool q0 q1 → K (.lst [.int q0, .int q1]) 1 [(.scr ns, 0), (.int k, 0)]) : CR.w (callAt P (n + 1) f [⟨.scr ns, 0, l⟩, ⟨.int k, 0, false⟩]) K X mk := by
  refine fn_w (fn := f_pool) hf rfl ?_
  obtain ⟨k1, k2⟩ := hk
  refine wSs_mid (fun e => e = [some ⟨.scr ns, 0, l⟩, some ⟨.int k, 0, false⟩, some ⟨.int 0, 0, false⟩, none]) (by simp only [f_pool]; and_intros) ?_
  rintro e rfl
  refine wSs_mid (fun e => ∃ c : Int, (0 ≤ c ∧ c < 10 ^ 60) ∧ e = [some ⟨.scr ns, 0, l⟩, some ⟨.int k, 0, false⟩, some ⟨.int c, 0, false⟩, none]) ?_ ?_
  · and_intros
    refine wIf_of (fun h1 => ?_) (fun h1 => ?_)
    · have h1 := of_decide_eq_true h1
      have z1 := Int.emod_nonneg k (b := (ns.length : Int)) (by omega)
      have z2 := Int.emod_lt_of_pos k h1
      and_intros
      refine cIx_of z1 (by rw [List.length_map]; exact z2) fun v hv => ?_
      rw [List.getElem?_map] at hv
      cases hx : ns[(k % (ns.length : Int)).toNat]? with
      | none => rw [hx] at hv; cases hv
      | some x =>
        rw [hx] at hv
        obtain rfl : PV.int x = v := by simpa using hv
        and_intros
        exact ⟨_, ⟨by omega, by omega⟩, rfl⟩
    · and_intros
      exact ⟨0, ⟨by omega, by omega⟩, rfl⟩
  · rintro e ⟨cell, ⟨c1, c2⟩, rfl⟩
    and_intros
    refine wIf_of (fun h1 => ?_) (fun h1 => ?_)
    · and_intros
      refine wIf_of (fun h1 => ?_) (fun h1 => ?_)
      · and_intros
        refine wIf_of (fun h1 => ?_) (fun h1 => ?_)
        · and_intros
          exact h _ _ ⟨⟨c1, c2⟩, by omega, by omega⟩
        · and_intros
          refine h _ _ ?_
          exact ⟨⟨by omega, by omega⟩, by omega, by omega⟩
      · and_intros
        refine h _ _ ?_
        exact ⟨⟨by omega, by omega⟩, by omega, by omega⟩
    · and_intros
      refine h _ _ ?_
      exact ⟨⟨by omega, by omega⟩, by omega, by omega⟩
def f_wide (d : Nat) : Fn where
  name := "_law_wide"
  np := 2
  locals := ["pool", "many", "number"]
  body := .cons (.asg (.nm 2) (.prim (.op .mul) (.cons (.call d (.cons (.var 0) (.cons (.cst (.int 1000000)) .nil))) (.cons (.prim (.op .pow) (.cons (.cst (.int 10)) (.cons (.cst (.int 12)) .nil))) .nil)))) (
    .cons (.asg (.nm 2) (.prim (.op .add) (.cons (.prim (.op .add) (.cons (.var 2) (.cons (.prim (.op .mul) (.cons (.call d (.cons (.var 0) (.cons (.cst (.int 1000000)) .nil))) (.cons (.prim (.op .pow) (.cons (.cst (.int 10)) (.cons (.cst (.int 6)) .nil))) .nil))) .nil))) (.cons (.call d (.cons (.var 0) (.cons (.cst (.int 1000000)) .nil))) .nil)))) (
    .cons (.ret (.prim (.op .mod) (.cons (.prim .toInt (.cons (.var 2) .nil)) (.cons (.var 1) .nil)))) .nil))
theorem wide_w {P : Prog} {n f d : Nat} {p0 p1 m : Int} {l : Bool} {K : PV → Nat → List (PV × Nat) → Prop} {X : Nat → PV → List (PV × Nat) → Prop} {mk : Mark (PProd.mk K X)} (hf : P.fns[f]? = some (f_wide d)) (hd : P.fns[d]? = some f_draw) (hp : Pool p0 p1) (hm : 0 < m ∧ m < 2 ^ 250)
    (h : ∀ r q0 q1, 0 ≤ r → r < m → Pool q0 q1 → K (.int r) 0 [(.lst [.int q0, .int q1], 1), (.int m, 0)]) : CR.w (callAt P (n + 2) f [⟨.lst [.int p0, .int p1], 1, l⟩, ⟨.int m, 0, false⟩]) K X mk := by
  refine fn_w (fn := f_wide d) hf rfl ?_
  obtain ⟨m1, m2⟩ := hm
  simp only [f_wide]
  and_intros
  refine draw_w hd hp ⟨by decide, by decide⟩ fun r1 p2 p3 a1 a2 hp => ?_
  and_intros
  refine draw_w hd hp ⟨by decide, by decide⟩ fun r2 p4 p5 a3 a4 hp => ?_
  and_intros
  refine draw_w hd hp ⟨by decide, by decide⟩ fun r3 p6 p7 a5 a6 hp => ?_
  and_intros
  exact h _ _ _ (Int.emod_nonneg _ (by omega)) (Int.emod_lt_of_pos _ m1) hp
theorem cIx_go {xs : List PV} {i : Int} {K : PV → Prop} {mk : Mark K} (k : Nat) {v : PV} (hi : i = k) (hv : xs[k]? = some v) (h : K v) : cIx xs i K mk := by
  rw [cIx_at hi hv]
  exact h
/-! ### texts as lists of signs -/
def zS (w : List Nat) : Str := ⟨w.toArray⟩
def zv (w : List Nat) : PV := .str (zS w)
theorem zS_cps {w : List Nat} : (zS w).cps.toList = w := rfl
theorem zS_len {w : List Nat} : (zS w).length = w.length := by
  show w.toArray.size = _
  rw [List.size_toArray]
theorem zS_add {a b : List Nat} : zS a ++ zS b = zS (a ++ b) := by
  show (⟨a.toArray ++ b.toArray⟩ : Str) = ⟨(a ++ b).toArray⟩
  rw [List.append_toArray]
theorem zS_inj {a b : List Nat} : zS a = zS b ↔ a = b := ⟨fun h => by
  have := congrArg (fun z : Str => z.cps.toList) h
  exact this, fun h => by rw [h]⟩
theorem zS_one {c : Nat} : (⟨#[c]⟩ : Str) = zS [c] := rfl
theorem zS_of (z : Str) : z = zS z.cps.toList := by
  cases z
  show _ = (⟨_⟩ : Str)
  simp
theorem zS_ok {w : List Nat} (h : ∀ c ∈ w, c < 0x110000) : PyData.strOk (zS w) = true := by
  show w.toArray.all (· < 0x110000) = true
  rw [Array.all_eq_true']
  intro c hc
  exact decide_eq_true (h c (by simpa using hc))
theorem zS_take {w : List Nat} {k : Nat} (h : k ≤ w.length) : L2.cutS (zS w) none (some (k : Int)) = zS (w.take k) := by
  unfold L2.cutS
  rw [zS_len, zS_cps]
  have e : HT.sIx w.length w.length (some (k : Int)) = k := by rw [HT.sIx_nat, Nat.min_eq_left h]
  have e0 : HT.sIx w.length 0 none = 0 := rfl
  rw [e, e0, List.drop_zero, Nat.sub_zero]
  rfl
theorem zS_drop {w : List Nat} {k : Nat} : L2.cutS (zS w) (some (k : Int)) none = zS (w.drop k) := by
  unfold L2.cutS
  rw [zS_len, zS_cps]
  have e : HT.sIx w.length 0 (some (k : Int)) = min k w.length := HT.sIx_nat _ _ _
  have e0 : HT.sIx w.length w.length none = w.length := rfl
  rw [e, e0]
  show zS _ = _
  congr 1
  by_cases h : k ≤ w.length
  · rw [Nat.min_eq_left h, List.take_of_length_le (by rw [List.length_drop]; omega)]
  · rw [Nat.min_eq_right (by omega), List.drop_of_length_le (Nat.le_refl _), List.drop_of_length_le (by omega)]
    simp
theorem okD_zv {w : List Nat} (h : ∀ c ∈ w, c < 0x110000) : okD (zv w) = true := by
  unfold zv
  rw [okD_str]
  exact zS_ok h
theorem zvsA : ∀ {ws : List (List Nat)}, (∀ w ∈ ws, ∀ c ∈ w, c < 0x110000) → PyData.canLayAll0 (toDs (ws.map zv)) = true ∧ PyData.depthAll (toDs (ws.map zv)) ≤ 1
  | [], _ => ⟨rfl, by decide⟩
  | w :: ws, h => by
    obtain ⟨h1, h2⟩ := zvsA fun v hv => h v (List.mem_cons_of_mem _ hv)
    have e : toDs ((w :: ws).map zv) = .str (zS w) :: toDs (ws.map zv) := rfl
    have hw := zS_ok (h w (by simp))
    rw [e]
    simp only [PyData.canLayAll0, PyData.canLay0, PyData.depthAll, PyData.depth, h1, hw]
    exact ⟨by decide, by omega⟩
theorem okD_zvs {ws : List (List Nat)} (h : ∀ w ∈ ws, ∀ c ∈ w, c < 0x110000) : okD (.lst (ws.map zv)) = true := by
  obtain ⟨h1, h2⟩ := zvsA h
  have e1 : (PyData.list (toDs (ws.map zv))).canLay0 = true := by simp only [PyData.canLay0, h1]
  have e2 : (PyData.list (toDs (ws.map zv))).depth ≤ 64 := by simp only [PyData.depth]; omega
  show (((PyData.list (toDs (ws.map zv))).canLay0 && decide ((PyData.list (toDs (ws.map zv))).depth ≤ 64)) : Bool) = true
  rw [e1, decide_eq_true e2]
  rfl
theorem okD_zvsT {ws : List (List Nat)} (h : ∀ w ∈ ws, ∀ c ∈ w, c < 0x110000) : okD (.tup (ws.map zv)) = true := by
  obtain ⟨h1, h2⟩ := zvsA h
  have e1 : (PyData.tuple (toDs (ws.map zv))).canLay0 = true := by simp only [PyData.canLay0, h1]
  have e2 : (PyData.tuple (toDs (ws.map zv))).depth ≤ 64 := by simp only [PyData.depth]; omega
  show (((PyData.tuple (toDs (ws.map zv))).canLay0 && decide ((PyData.tuple (toDs (ws.map zv))).depth ≤ 64)) : Bool) = true
  rw [e1, decide_eq_true e2]
  rfl
theorem peq_zv {a b : List Nat} : peq (zv a) (zv b) = decide (a = b) := by
  unfold zv
  rw [peq_str]
  by_cases h : a = b
  · rw [decide_eq_true h, decide_eq_true (zS_inj.mpr h)]
  · rw [decide_eq_false h, decide_eq_false fun z => h (zS_inj.mp z)]
theorem peq_zvsA : ∀ ws vs : List (List Nat), PyData.eqvAll (toDs (ws.map zv)) (toDs (vs.map zv)) = decide (ws = vs)
  | [], [] => rfl
  | [], _ :: _ => rfl
  | _ :: _, [] => rfl
  | w :: ws, v :: vs => by
    have e : PyData.eqvAll (toDs ((w :: ws).map zv)) (toDs ((v :: vs).map zv)) = (peq (zv w) (zv v) && PyData.eqvAll (toDs (ws.map zv)) (toDs (vs.map zv))) := rfl
    rw [e, peq_zvsA ws vs, peq_zv]
    by_cases h1 : w = v <;> by_cases h2 : ws = vs <;> simp [h1, h2]
theorem peq_zvs (ws vs : List (List Nat)) : peq (.lst (ws.map zv)) (.lst (vs.map zv)) = decide (ws = vs) := peq_zvsA ws vs
theorem peq_zvsT (ws vs : List (List Nat)) : peq (.tup (ws.map zv)) (.tup (vs.map zv)) = decide (ws = vs) := peq_zvsA ws vs
theorem any_zvs {w : List Nat} : ∀ ws : List (List Nat), ((toDs (ws.map zv)).any fun z => PyData.eqv z (toD (zv w))) = decide (w ∈ ws)
  | [] => rfl
  | v :: ws => by
    have e : ((toDs ((v :: ws).map zv)).any fun z => PyData.eqv z (toD (zv w))) = (peq (zv v) (zv w) || (toDs (ws.map zv)).any fun z => PyData.eqv z (toD (zv w))) := rfl
    rw [e, any_zvs ws, peq_zv]
    by_cases h1 : v = w
    · subst h1; simp
    · rw [decide_eq_false h1, Bool.false_or]
      by_cases h2 : w ∈ ws
      · rw [decide_eq_true h2, decide_eq_true (List.mem_cons_of_mem _ h2)]
      · rw [decide_eq_false h2, decide_eq_false]
        simp only [List.mem_cons, not_or]
        exact ⟨fun z => h1 z.symm, h2⟩
/-- one text among texts -/
theorem cPr_inZv {w : List Nat} {ws : List (List Nat)} {K : PV → Nat → Prop} (hw : ∀ c ∈ w, c < 0x110000) (hs : ∀ w ∈ ws, ∀ c ∈ w, c < 0x110000) : cPr (.cmp .inn) [zv w, .lst (ws.map zv)] K = K (.bl (decide (w ∈ ws))) 0 := by
  unfold cPr
  rw [show prim (.cmp .inn) [zv w, .lst (ws.map zv)] = (cmp2 .inn (zv w) (.lst (ws.map zv))).map fun b => PRes.old (.bl b) from rfl]
  simp only [cmp2]
  rw [okD_zvs hs, okD_zv hw, any_zvs]
  rfl
end MP
set_option maxHeartbeats 0
namespace K03
open MP PySem
def f_check_mask : Fn where
  name := "check_mask"
  np := 1
  locals := ["mask"]
  body := .cons (.ifs (.bop false (.cons (.prim (.cmp .lt) (.cons (.var 0) (.cons (.cst (.int 0)) .nil))) (.cons (.prim (.cmp .gt) (.cons (.prim .bits (.cons (.var 0) .nil)) (.cons (.prim (.op .add) (.cons (.glb 0) (.cons (.cst (.int 1)) .nil))) .nil))) .nil))) (.cons (.raise 0 (.var 0)) .nil) (.nil)) .nil
def f_mask_of : Fn where
  name := "mask_of"
  np := 1
  locals := ["positions", "mask", "position"]
  body := .cons (.asg (.nm 1) (.cst (.int 0))) (
    .cons (.for_ (.nm 2) (.ex (.var 0)) (.cons (.ifs (.not_ (.chn .le .le (.cst (.int 0)) (.var 2) (.glb 0))) (.cons (.raise 0 (.var 2)) .nil) (.nil)) (
      .cons (.asg (.nm 1) (.prim (.op .bor) (.cons (.var 1) (.cons (.prim (.op .shl) (.cons (.cst (.int 1)) (.cons (.var 2) .nil))) .nil)))) .nil))) (
    .cons (.ret (.var 1)) .nil))
def f_positions_of : Fn where
  name := "positions_of"
  np := 1
  locals := ["mask", "digits", "at", "digit"]
  body := .cons (.exp (.call 0 (.cons (.var 0) .nil))) (
    .cons (.asg (.nm 1) (.prim .fmtB (.cons (.var 0) .nil))) (
    .cons (.ret (.prim .toTup (.cons (.lc (.var 2) (.tup (.cons (.nm 2) (.cons (.nm 3) .nil))) (.enu (.prim .rev (.cons (.var 1) .nil))) (.cons (.prim (.cmp .eq) (.cons (.var 3) (.cons (.cst (.str "1")) .nil))) .nil) [2, 3]) .nil))) .nil))
def f_size_of : Fn where
  name := "size_of"
  np := 1
  locals := ["mask", "digits"]
  body := .cons (.exp (.call 0 (.cons (.var 0) .nil))) (
    .cons (.asg (.nm 1) (.prim .fmtB (.cons (.var 0) .nil))) (
    .cons (.ret (.prim (.cnt "1") (.cons (.var 1) .nil))) .nil))
def f_first_of : Fn where
  name := "first_of"
  np := 1
  locals := ["mask"]
  body := .cons (.exp (.call 0 (.cons (.var 0) .nil))) (
    .cons (.ifs (.prim (.cmp .eq) (.cons (.var 0) (.cons (.cst (.int 0)) .nil))) (.cons (.ret (.cst (.non))) .nil) (.nil)) (
    .cons (.ret (.prim (.op .sub) (.cons (.prim .bits (.cons (.prim (.op .band) (.cons (.var 0) (.cons (.prim .neg (.cons (.var 0) .nil)) .nil))) .nil)) (.cons (.cst (.int 1)) .nil)))) .nil))
def f__law_pool : Fn where
  name := "_law_pool"
  np := 2
  locals := ["script", "k", "cell", "mixed"]
  body := .cons (.asg (.nm 2) (.cst (.int 0))) (
    .cons (.ifs (.prim (.cmp .gt) (.cons (.prim .len (.cons (.var 0) .nil)) (.cons (.cst (.int 0)) .nil))) (.cons (.asg (.nm 2) (.prim (.op .mod) (.cons (.prim .toInt (.cons (.prim .ix (.cons (.var 0) (.cons (.prim (.op .mod) (.cons (.var 1) (.cons (.prim .len (.cons (.var 0) .nil)) .nil))) .nil))) .nil)) (.cons (.prim (.op .pow) (.cons (.cst (.int 10)) (.cons (.cst (.int 60)) .nil))) .nil)))) .nil) (.nil)) (
    .cons (.ifs (.bop true (.cons (.prim (.cmp .lt) (.cons (.var 1) (.cons (.prim .len (.cons (.var 0) .nil)) .nil))) (.cons (.prim (.cmp .le) (.cons (.prim (.op .pow) (.cons (.cst (.int 10)) (.cons (.cst (.int 18)) .nil))) (.cons (.var 2) .nil))) (.cons (.prim (.cmp .lt) (.cons (.var 2) (.cons (.prim (.op .sub) (.cons (.prim (.op .pow) (.cons (.cst (.int 10)) (.cons (.cst (.int 60)) .nil))) (.cons (.prim (.op .pow) (.cons (.cst (.int 10)) (.cons (.cst (.int 18)) .nil))) .nil))) .nil))) .nil)))) (.cons (.ret (.prim .lst (.cons (.var 2) (.cons (.var 1) .nil)))) .nil) (.nil)) (
    .cons (.asg (.nm 3) (.prim (.op .mod) (.cons (.prim .toInt (.cons (.prim (.op .add) (.cons (.prim (.op .add) (.cons (.prim (.op .mul) (.cons (.var 2) (.cons (.cst (.int 48271)) .nil))) (.cons (.prim (.op .mul) (.cons (.var 1) (.cons (.cst (.int 69621)) .nil))) .nil))) (.cons (.cst (.int 7)) .nil))) .nil)) (.cons (.cst (.int 2147483647)) .nil)))) (
    .cons (.ret (.prim .lst (.cons (.cst (.int 0)) (.cons (.prim (.op .mod) (.cons (.prim .toInt (.cons (.prim (.op .add) (.cons (.prim (.op .add) (.cons (.prim (.op .mul) (.cons (.var 3) (.cons (.var 3) .nil))) (.cons (.prim (.op .mul) (.cons (.cst (.int 5)) (.cons (.var 1) .nil))) .nil))) (.cons (.cst (.int 3)) .nil))) .nil)) (.cons (.cst (.int 2147483647)) .nil))) .nil)))) .nil))))
def f__law_draw : Fn where
  name := "_law_draw"
  np := 2
  locals := ["pool", "many", "digit"]
  body := .cons (.ifs (.prim (.cmp .gt) (.cons (.prim .ix (.cons (.var 0) (.cons (.cst (.int 0)) .nil))) (.cons (.cst (.int 0)) .nil))) (.cons (.asg (.nm 2) (.prim (.op .mod) (.cons (.prim .toInt (.cons (.prim .ix (.cons (.var 0) (.cons (.cst (.int 0)) .nil))) .nil)) (.cons (.var 1) .nil)))) (
      .cons (.setix 0 (.cst (.int 0)) (.prim (.op .fdiv) (.cons (.prim .ix (.cons (.var 0) (.cons (.cst (.int 0)) .nil))) (.cons (.var 1) .nil)))) (
      .cons (.ret (.var 2)) .nil))) (.nil)) (
    .cons (.setix 0 (.cst (.int 1)) (.prim (.op .mod) (.cons (.prim .toInt (.cons (.prim (.op .add) (.cons (.prim (.op .mul) (.cons (.prim .ix (.cons (.var 0) (.cons (.cst (.int 1)) .nil))) (.cons (.cst (.int 16807)) .nil))) (.cons (.cst (.int 12345)) .nil))) .nil)) (.cons (.cst (.int 2147483647)) .nil)))) (
    .cons (.ret (.prim (.op .mod) (.cons (.prim .toInt (.cons (.prim (.op .fdiv) (.cons (.prim .ix (.cons (.var 0) (.cons (.cst (.int 1)) .nil))) (.cons (.cst (.int 64)) .nil))) .nil)) (.cons (.var 1) .nil)))) .nil))
def f__law_wide : Fn where
  name := "_law_wide"
  np := 2
  locals := ["pool", "many", "number"]
  body := .cons (.asg (.nm 2) (.prim (.op .mul) (.cons (.call 6 (.cons (.var 0) (.cons (.cst (.int 1000000)) .nil))) (.cons (.prim (.op .pow) (.cons (.cst (.int 10)) (.cons (.cst (.int 12)) .nil))) .nil)))) (
    .cons (.asg (.nm 2) (.prim (.op .add) (.cons (.prim (.op .add) (.cons (.var 2) (.cons (.prim (.op .mul) (.cons (.call 6 (.cons (.var 0) (.cons (.cst (.int 1000000)) .nil))) (.cons (.prim (.op .pow) (.cons (.cst (.int 10)) (.cons (.cst (.int 6)) .nil))) .nil))) .nil))) (.cons (.call 6 (.cons (.var 0) (.cons (.cst (.int 1000000)) .nil))) .nil)))) (
    .cons (.ret (.prim (.op .mod) (.cons (.prim .toInt (.cons (.var 2) .nil)) (.cons (.var 1) .nil)))) .nil))
def f__law_positions : Fn where
  name := "_law_positions"
  np := 3
  locals := ["script", "many", "rare", "positions", "k", "pool", "wrong", "position", "beyond"]
  body := .cons (.asg (.nm 3) (.prim .lst (.nil))) (
    .cons (.for_ (.nm 4) (.rng (.cons (.var 1) .nil)) (.cons (.asg (.nm 5) (.call 5 (.cons (.var 0) (.cons (.prim (.op .add) (.cons (.var 4) (.cons (.cst (.int 2)) .nil))) .nil)))) (
      .cons (.asg (.nm 6) (.prim (.cmp .eq) (.cons (.call 6 (.cons (.var 5) (.cons (.var 2) .nil))) (.cons (.cst (.int 0)) .nil)))) (
      .cons (.asg (.nm 7) (.call 6 (.cons (.var 5) (.cons (.prim .ix (.cons (.prim .lst (.cons (.cst (.int 13)) (.cons (.cst (.int 200)) (.cons (.cst (.int 5001)) .nil)))) (.cons (.call 6 (.cons (.var 5) (.cons (.cst (.int 3)) .nil))) .nil))) .nil)))) (
      .cons (.ifs (.prim (.cmp .eq) (.cons (.call 6 (.cons (.var 5) (.cons (.cst (.int 4)) .nil))) (.cons (.cst (.int 1)) .nil))) (.cons (.asg (.nm 7) (.prim .ix (.cons (.prim .lst (.cons (.cst (.int 0)) (.cons (.cst (.int 1)) (.cons (.cst (.int 29)) (.cons (.cst (.int 30)) (.cons (.cst (.int 31)) (.cons (.cst (.int 62)) (.cons (.cst (.int 63)) (.cons (.cst (.int 64)) (.cons (.cst (.int 65)) (.cons (.cst (.int 127)) (.cons (.cst (.int 128)) (.cons (.cst (.int 4999)) (.cons (.cst (.int 5000)) .nil)))))))))))))) (.cons (.call 6 (.cons (.var 5) (.cons (.cst (.int 13)) .nil))) .nil)))) .nil) (.nil)) (
      .cons (.ifs (.var 6) (.cons (.asg (.nm 8) (.call 6 (.cons (.var 5) (.cons (.prim .ix (.cons (.prim .lst (.cons (.cst (.int 1)) (.cons (.cst (.int 60)) (.cons (.cst (.int 1000000)) .nil)))) (.cons (.call 6 (.cons (.var 5) (.cons (.cst (.int 3)) .nil))) .nil))) .nil)))) (
        .cons (.asg (.nm 7) (.prim .ix (.cons (.prim .lst (.cons (.prim (.op .sub) (.cons (.prim .neg (.cons (.cst (.int 1)) .nil)) (.cons (.var 8) .nil))) (.cons (.prim (.op .add) (.cons (.cst (.int 5001)) (.cons (.var 8) .nil))) .nil))) (.cons (.call 6 (.cons (.var 5) (.cons (.cst (.int 2)) .nil))) .nil)))) .nil)) (.nil)) (
      .cons (.app 3 (.var 7)) .nil))))))) (
    .cons (.ret (.var 3)) .nil))
def f__law_mask_told : Fn where
  name := "_law_mask_told"
  np := 1
  locals := ["positions", "e"]
  body := .cons (.tryAs (.cons (.ret (.prim .lst (.cons (.cst (.int 0)) (.cons (.call 1 (.cons (.var 0) .nil)) .nil)))) .nil) 0 1 (.cons (.ret (.prim .lst (.cons (.cst (.int 1)) (.cons (.exf 1 "number") .nil)))) .nil)) .nil
def f__law_asked : Fn where
  name := "_law_asked"
  np := 2
  locals := ["choice", "mask", "e"]
  body := .cons (.tryAs (.cons (.ifs (.prim (.cmp .eq) (.cons (.var 0) (.cons (.cst (.int 0)) .nil))) (.cons (.ret (.prim .lst (.cons (.cst (.int 0)) (.cons (.call 2 (.cons (.var 1) .nil)) .nil)))) .nil) (.nil)) (
      .cons (.ifs (.prim (.cmp .eq) (.cons (.var 0) (.cons (.cst (.int 1)) .nil))) (.cons (.ret (.prim .lst (.cons (.cst (.int 0)) (.cons (.call 3 (.cons (.var 1) .nil)) .nil)))) .nil) (.nil)) (
      .cons (.ret (.prim .lst (.cons (.cst (.int 0)) (.cons (.call 4 (.cons (.var 1) .nil)) .nil)))) .nil))) 0 2 (.cons (.ret (.prim .lst (.cons (.cst (.int 1)) (.cons (.exf 2 "number") .nil)))) .nil)) .nil
def f__law_is_told : Fn where
  name := "_law_is_told"
  np := 3
  locals := ["told", "code", "number"]
  body := .cons (.ret (.bop true (.cons (.prim (.cmp .eq) (.cons (.prim .ix (.cons (.var 0) (.cons (.cst (.int 0)) .nil))) (.cons (.var 1) .nil))) (.cons (.prim (.isi .int) (.cons (.prim .ix (.cons (.var 0) (.cons (.cst (.int 1)) .nil))) .nil)) (.cons (.not_ (.prim (.isi .bool) (.cons (.prim .ix (.cons (.var 0) (.cons (.cst (.int 1)) .nil))) .nil))) (.cons (.prim (.cmp .eq) (.cons (.prim .ix (.cons (.var 0) (.cons (.cst (.int 1)) .nil))) (.cons (.var 2) .nil))) .nil)))))) .nil
def f__law_is_refused : Fn where
  name := "_law_is_refused"
  np := 1
  locals := ["mask", "choice"]
  body := .cons (.for_ (.nm 1) (.rng (.cons (.cst (.int 3)) .nil)) (.cons (.ifs (.not_ (.call 11 (.cons (.call 10 (.cons (.var 1) (.cons (.var 0) .nil))) (.cons (.cst (.int 1)) (.cons (.var 0) .nil))))) (.cons (.ret (.cst (.bl false))) .nil) (.nil)) .nil)) (
    .cons (.ret (.cst (.bl true))) .nil)
def f__law_is_shown : Fn where
  name := "_law_is_shown"
  np := 2
  locals := ["mask", "ordered", "told", "k"]
  body := .cons (.asg (.nm 2) (.call 10 (.cons (.cst (.int 0)) (.cons (.var 0) .nil)))) (
    .cons (.ifs (.bop false (.cons (.prim (.cmp .ne) (.cons (.prim .ix (.cons (.var 2) (.cons (.cst (.int 0)) .nil))) (.cons (.cst (.int 0)) .nil))) (.cons (.not_ (.prim (.isi .tup) (.cons (.prim .ix (.cons (.var 2) (.cons (.cst (.int 1)) .nil))) .nil))) (.cons (.prim (.cmp .ne) (.cons (.prim .len (.cons (.prim .ix (.cons (.var 2) (.cons (.cst (.int 1)) .nil))) .nil)) (.cons (.prim .len (.cons (.var 1) .nil)) .nil))) .nil)))) (.cons (.ret (.cst (.bl false))) .nil) (.nil)) (
    .cons (.for_ (.nm 3) (.rng (.cons (.prim .len (.cons (.var 1) .nil)) .nil)) (.cons (.ifs (.not_ (.call 11 (.cons (.prim .lst (.cons (.cst (.int 0)) (.cons (.prim .ix (.cons (.prim .ix (.cons (.var 2) (.cons (.cst (.int 1)) .nil))) (.cons (.var 3) .nil))) .nil))) (.cons (.cst (.int 0)) (.cons (.prim .ix (.cons (.var 1) (.cons (.var 3) .nil))) .nil))))) (.cons (.ret (.cst (.bl false))) .nil) (.nil)) .nil)) (
    .cons (.ifs (.not_ (.call 11 (.cons (.call 10 (.cons (.cst (.int 1)) (.cons (.var 0) .nil))) (.cons (.cst (.int 0)) (.cons (.prim .len (.cons (.var 1) .nil)) .nil))))) (.cons (.ret (.cst (.bl false))) .nil) (.nil)) (
    .cons (.asg (.nm 2) (.call 10 (.cons (.cst (.int 2)) (.cons (.var 0) .nil)))) (
    .cons (.ifs (.prim (.cmp .eq) (.cons (.prim .len (.cons (.var 1) .nil)) (.cons (.cst (.int 0)) .nil))) (.cons (.ret (.bop true (.cons (.prim (.cmp .eq) (.cons (.prim .ix (.cons (.var 2) (.cons (.cst (.int 0)) .nil))) (.cons (.cst (.int 0)) .nil))) (.cons (.prim (.cmp .is_) (.cons (.prim .ix (.cons (.var 2) (.cons (.cst (.int 1)) .nil))) (.cons (.cst (.non)) .nil))) .nil)))) .nil) (.nil)) (
    .cons (.ret (.call 11 (.cons (.var 2) (.cons (.cst (.int 0)) (.cons (.prim .ix (.cons (.var 1) (.cons (.cst (.int 0)) .nil))) .nil))))) .nil))))))
def f__law_mask : Fn where
  name := "_law_mask"
  np := 1
  locals := ["ordered", "mask", "position"]
  body := .cons (.asg (.nm 1) (.cst (.int 0))) (
    .cons (.for_ (.nm 2) (.ex (.var 0)) (.cons (.asg (.nm 1) (.prim (.op .add) (.cons (.var 1) (.cons (.prim (.op .shl) (.cons (.cst (.int 1)) (.cons (.var 2) .nil))) .nil)))) .nil)) (
    .cons (.ret (.var 1)) .nil))
def f__law_ones : Fn where
  name := "_law_ones"
  np := 2
  locals := ["number", "shift", "places", "k"]
  body := .cons (.asg (.nm 2) (.prim .lst (.nil))) (
    .cons (.for_ (.nm 3) (.rng (.cons (.cst (.int 60)) .nil)) (.cons (.ifs (.prim (.cmp .eq) (.cons (.prim (.op .mod) (.cons (.prim .toInt (.cons (.var 0) .nil)) (.cons (.cst (.int 2)) .nil))) (.cons (.cst (.int 1)) .nil))) (.cons (.app 2 (.prim (.op .add) (.cons (.var 1) (.cons (.var 3) .nil)))) .nil) (.nil)) (
      .cons (.asg (.nm 0) (.prim (.op .fdiv) (.cons (.var 0) (.cons (.cst (.int 2)) .nil)))) .nil))) (
    .cons (.ret (.var 2)) .nil))
def f_law : Fn where
  name := "law"
  np := 1
  locals := ["script", "pool", "many", "positions", "wrong", "position", "ordered", "mask", "due", "handed", "number", "shift", "top", "lows", "k", "beyond"]
  body := .cons (.asg (.nm 1) (.call 5 (.cons (.var 0) (.cons (.cst (.int 0)) .nil)))) (
    .cons (.asg (.nm 2) (.call 6 (.cons (.var 1) (.cons (.cst (.int 13)) .nil)))) (
    .cons (.ifs (.prim (.cmp .eq) (.cons (.call 6 (.cons (.var 1) (.cons (.cst (.int 8)) .nil))) (.cons (.cst (.int 1)) .nil))) (.cons (.asg (.nm 2) (.call 6 (.cons (.var 1) (.cons (.cst (.int 61)) .nil)))) .nil) (.nil)) (
    .cons (.asg (.nm 3) (.call 8 (.cons (.var 0) (.cons (.var 2) (.cons (.prim (.op .add) (.cons (.cst (.int 1)) (.cons (.call 6 (.cons (.var 1) (.cons (.cst (.int 30)) .nil))) .nil))) .nil))))) (
    .cons (.asg (.nm 4) (.lc (.var 5) (.nm 5) (.ex (.var 3)) (.cons (.bop false (.cons (.prim (.cmp .lt) (.cons (.var 5) (.cons (.cst (.int 0)) .nil))) (.cons (.prim (.cmp .gt) (.cons (.var 5) (.cons (.cst (.int 5000)) .nil))) .nil))) .nil) [5])) (
    .cons (.asg (.nm 6) (.prim .sset (.cons (.lc (.var 5) (.nm 5) (.ex (.var 3)) (.cons (.bop true (.cons (.prim (.cmp .le) (.cons (.cst (.int 0)) (.cons (.var 5) .nil))) (.cons (.prim (.cmp .le) (.cons (.var 5) (.cons (.cst (.int 5000)) .nil))) .nil))) .nil) [5]) .nil))) (
    .cons (.asg (.nm 7) (.call 14 (.cons (.var 6) .nil))) (
    .cons (.asg (.nm 8) (.prim .lst (.cons (.cst (.int 0)) (.cons (.var 7) .nil)))) (
    .cons (.ifs (.prim (.cmp .gt) (.cons (.prim .len (.cons (.var 4) .nil)) (.cons (.cst (.int 0)) .nil))) (.cons (.asg (.nm 8) (.prim .lst (.cons (.cst (.int 1)) (.cons (.prim .ix (.cons (.var 4) (.cons (.cst (.int 0)) .nil))) .nil)))) .nil) (.nil)) (
    .cons (.asg (.nm 9) (.prim .toLst (.cons (.var 3) .nil))) (
    .cons (.ifs (.bop false (.cons (.not_ (.call 11 (.cons (.call 9 (.cons (.var 9) .nil)) (.cons (.prim .ix (.cons (.var 8) (.cons (.cst (.int 0)) .nil))) (.cons (.prim .ix (.cons (.var 8) (.cons (.cst (.int 1)) .nil))) .nil))))) (.cons (.prim (.cmp .ne) (.cons (.var 9) (.cons (.var 3) .nil))) .nil))) (.cons (.ret (.cst (.bl false))) .nil) (.nil)) (
    .cons (.ifs (.bop false (.cons (.not_ (.call 11 (.cons (.call 9 (.cons (.prim .toTup (.cons (.var 3) .nil)) .nil)) (.cons (.prim .ix (.cons (.var 8) (.cons (.cst (.int 0)) .nil))) (.cons (.prim .ix (.cons (.var 8) (.cons (.cst (.int 1)) .nil))) .nil))))) (.cons (.not_ (.call 13 (.cons (.var 7) (.cons (.var 6) .nil)))) .nil))) (.cons (.ret (.cst (.bl false))) .nil) (.nil)) (
    .cons (.asg (.nm 1) (.call 5 (.cons (.var 0) (.cons (.cst (.int 1)) .nil)))) (
    .cons (.asg (.nm 10) (.call 7 (.cons (.var 1) (.cons (.prim .ix (.cons (.prim .lst (.cons (.cst (.int 2)) (.cons (.cst (.int 64)) (.cons (.prim (.op .pow) (.cons (.cst (.int 10)) (.cons (.cst (.int 6)) .nil))) (.cons (.prim (.op .pow) (.cons (.cst (.int 10)) (.cons (.cst (.int 18)) .nil))) .nil))))) (.cons (.call 6 (.cons (.var 1) (.cons (.cst (.int 4)) .nil))) .nil))) .nil)))) (
    .cons (.asg (.nm 11) (.call 6 (.cons (.var 1) (.cons (.cst (.int 4901)) .nil)))) (
    .cons (.ifs (.not_ (.call 13 (.cons (.prim (.op .mul) (.cons (.var 10) (.cons (.prim (.op .shl) (.cons (.cst (.int 1)) (.cons (.var 11) .nil))) .nil))) (.cons (.call 15 (.cons (.var 10) (.cons (.var 11) .nil))) .nil)))) (.cons (.ret (.cst (.bl false))) .nil) (.nil)) (
    .cons (.asg (.nm 12) (.prim (.op .shl) (.cons (.cst (.int 1)) (.cons (.cst (.int 5001)) .nil)))) (
    .cons (.asg (.nm 13) (.call 15 (.cons (.var 10) (.cons (.cst (.int 0)) .nil)))) (
    .cons (.ifs (.prim (.cmp .eq) (.cons (.call 6 (.cons (.var 1) (.cons (.cst (.int 4)) .nil))) (.cons (.cst (.int 1)) .nil))) (.cons (.ifs (.not_ (.call 13 (.cons (.prim (.op .sub) (.cons (.prim (.op .sub) (.cons (.var 12) (.cons (.cst (.int 1)) .nil))) (.cons (.var 10) .nil))) (.cons (.prim (.op .add) (.cons (.lc (.var 14) (.nm 14) (.rng (.cons (.cst (.int 60)) .nil)) (.cons (.prim (.cmp .nin) (.cons (.var 14) (.cons (.var 13) .nil))) .nil) [14]) (.cons (.prim .lrng (.cons (.cst (.int 60)) (.cons (.cst (.int 5001)) .nil))) .nil))) .nil)))) (.cons (.ret (.cst (.bl false))) .nil) (.nil)) .nil) (.nil)) (
    .cons (.for_ (.nm 15) (.ex (.prim .lst (.cons (.prim .neg (.cons (.cst (.int 1)) .nil)) (.cons (.prim (.op .sub) (.cons (.prim .neg (.cons (.cst (.int 1)) .nil)) (.cons (.var 10) .nil))) (.cons (.var 12) (.cons (.prim (.op .add) (.cons (.var 12) (.cons (.var 10) .nil))) (.cons (.prim (.op .add) (.cons (.var 12) (.cons (.var 7) .nil))) .nil))))))) (.cons (.ifs (.not_ (.call 12 (.cons (.var 15) .nil))) (.cons (.ret (.cst (.bl false))) .nil) (.nil)) .nil)) (
    .cons (.ret (.cst (.bl true))) .nil))))))))))))))))))))
def P : Prog where
  fns := [f_check_mask, f_mask_of, f_positions_of, f_size_of, f_first_of, f__law_pool, f__law_draw, f__law_wide, f__law_positions, f__law_mask_told, f__law_asked, f__law_is_told, f__law_is_refused, f__law_is_shown, f__law_mask, f__law_ones, f_law]
  cls := [⟨"BadNumber", "number", []⟩]
  glbs := [("MOST_POSITION", .int 5000)]
def top (i : Nat) : Stmt := PySem.Challenge.pw_rollstep_k03_bits.main.body.getD i (.Pass ⟨0, 0, 0, 0⟩)
def ds : List He.DefD := [defOfS (top 5), defOfS (top 6), defOfS (top 7), defOfS (top 8), defOfS (top 9), defOfS (top 11), defOfS (top 12), defOfS (top 13), defOfS (top 14), defOfS (top 15), defOfS (top 16), defOfS (top 17), defOfS (top 18), defOfS (top 19), defOfS (top 20), defOfS (top 21), defOfS (top 22)]
-- law at top 22; others: ['RollstepError', 'BadNumber', 'MOST_POSITION', 'check_mask', 'mask_of', 'positions_of', 'size_of', 'first_of', '_law_pool', '_law_draw', '_law_wide', '_law_positions', '_law_mask_told', '_law_asked', '_law_is_told', '_law_is_refused', '_law_is_shown', '_law_mask', '_law_ones']
def lawIx : Nat := 22
def lawFn : Nat := 16
def names0 : List PySem.Str := ["RollstepError", "BadNumber", "MOST_POSITION", "check_mask", "mask_of", "positions_of", "size_of", "first_of", "_law_pool", "_law_draw", "_law_wide", "_law_positions", "_law_mask_told", "_law_asked", "_law_is_told", "_law_is_refused", "_law_is_shown", "_law_mask", "_law_ones"]
def names : List PySem.Str := names0
end K03

namespace K03
open MP PySem
/-! ### bits -/
/-- the set bits of a number -/
def Bits (M : Nat) (S : List Nat) : Prop := ∀ i, M.testBit i = decide (i ∈ S)
theorem Bits.same {M N : Nat} {S S' : List Nat} (h : Bits M S) (g : Bits N S') (e : ∀ i, i ∈ S ↔ i ∈ S') : M = N := Nat.eq_of_testBit_eq fun i => by
  rw [h i, g i]
  exact decide_eq_decide.mpr (e i)
theorem Bits.nil : Bits 0 [] := fun i => by simp
theorem Bits.or {M p : Nat} {S : List Nat} (h : Bits M S) : Bits (M ||| 2 ^ p) (S ++ [p]) := fun i => by
  rw [Nat.testBit_or, h i, Nat.testBit_two_pow, ← Bool.decide_or]
  exact decide_eq_decide.mpr (by simp [eq_comm])
theorem Bits.lt {M p : Nat} {S : List Nat} (h : Bits M S) (hp : ∀ i ∈ S, i < p) : M < 2 ^ p := Nat.lt_pow_two_of_testBit M fun i hi => by
  rw [h i]
  exact decide_eq_false fun z => by have := hp i z; omega
theorem Bits.add {M p : Nat} {S : List Nat} (h : Bits M S) (hp : ∀ i ∈ S, i < p) : Bits (M + 2 ^ p) (S ++ [p]) := by
  have e : M + 2 ^ p = M ||| 2 ^ p := by
    have := Nat.shiftLeft_add_eq_or_of_lt (h.lt hp) 1
    rw [Nat.one_shiftLeft] at this
    rw [Nat.add_comm, this, Nat.or_comm]
  rw [e]
  exact h.or
theorem Bits.shift {M s : Nat} {S : List Nat} (h : Bits M S) : Bits (M * 2 ^ s) (S.map fun k => s + k) := fun i => by
  rw [Nat.testBit_mul_two_pow, h]
  by_cases hi : s ≤ i
  · rw [decide_eq_true hi, Bool.true_and]
    refine decide_eq_decide.mpr ?_
    rw [List.mem_map]
    exact ⟨fun z => ⟨_, z, by omega⟩, fun ⟨k, hk, e⟩ => by rw [show i - s = k by omega]; exact hk⟩
  · rw [decide_eq_false hi, Bool.false_and]
    refine (decide_eq_false fun z => ?_).symm
    obtain ⟨k, hk, e⟩ := List.mem_map.mp z
    omega
theorem Bits.neg {M n : Nat} {S T : List Nat} (h : Bits M S) (hn : M < 2 ^ n) (hT : ∀ i, i ∈ T ↔ i < n ∧ i ∉ S) : Bits (2 ^ n - 1 - M) T := fun i => by
  rw [show 2 ^ n - 1 - M = 2 ^ n - (M + 1) by omega, Nat.testBit_two_pow_sub_succ hn, h i]
  by_cases hi : i < n <;> by_cases hs : i ∈ S <;> simp [hi, hs, hT]
theorem lt_uniqN : ∀ {a b : List Nat}, a.Pairwise (· < ·) → b.Pairwise (· < ·) → (∀ k, k ∈ a ↔ k ∈ b) → a = b
  | [], [], _, _, _ => rfl
  | [], y :: ys, _, _, h => absurd ((h y).mpr List.mem_cons_self) (by simp)
  | x :: xs, [], _, _, h => absurd ((h x).mp List.mem_cons_self) (by simp)
  | x :: xs, y :: ys, ha, hb, h => by
    obtain ⟨a1, a2⟩ := List.pairwise_cons.mp ha
    obtain ⟨b1, b2⟩ := List.pairwise_cons.mp hb
    have e : x = y := by
      rcases List.mem_cons.mp ((h x).mp List.mem_cons_self) with z | z
      · exact z
      · rcases List.mem_cons.mp ((h y).mpr List.mem_cons_self) with u | u
        · exact u.symm
        · have := b1 x z
          have := a1 y u
          omega
    subst e
    rw [lt_uniqN a2 b2 fun k => ⟨fun hk => ?_, fun hk => ?_⟩]
    · rcases List.mem_cons.mp ((h k).mp (List.mem_cons_of_mem _ hk)) with rfl | z
      · exact absurd (a1 _ hk) (Nat.lt_irrefl _)
      · exact z
    · rcases List.mem_cons.mp ((h k).mpr (List.mem_cons_of_mem _ hk)) with rfl | z
      · exact absurd (b1 _ hk) (Nat.lt_irrefl _)
      · exact z
/-- the binary digits, the least one first -/
def dgs (n : Nat) : List Nat := ((Nat.toDigits 2 n).map Char.toNat).reverse
theorem dgs_eq (n : Nat) : dgs n = if n < 2 then [if n.testBit 0 then 49 else 48] else (if n.testBit 0 then 49 else 48) :: dgs (n / 2) := by
  unfold dgs
  rw [Nat.toDigits_eq_if (by decide)]
  by_cases h : n < 2
  · rw [if_pos h, if_pos h]
    rcases (by omega : n = 0 ∨ n = 1) with rfl | rfl <;> rfl
  · rw [if_neg h, if_neg h, List.map_append, List.reverse_append]
    rcases (by omega : n % 2 = 0 ∨ n % 2 = 1) with e | e
    · rw [e, Nat.testBit_zero, e]; rfl
    · rw [e, Nat.testBit_zero, e]; rfl
theorem dgs_at : ∀ (i n c : Nat), (dgs n)[i]? = some c → c = if n.testBit i then 49 else 48
  | 0, n, c, h => by
    rw [dgs_eq] at h
    by_cases h2 : n < 2
    · rw [if_pos h2] at h; simpa using h.symm
    · rw [if_neg h2] at h; simpa using h.symm
  | i + 1, n, c, h => by
    rw [dgs_eq] at h
    by_cases h2 : n < 2
    · rw [if_pos h2] at h; simp at h
    · rw [if_neg h2] at h
      have := dgs_at i (n / 2) c (by simpa using h)
      rw [Nat.testBit_succ]
      exact this
theorem dgs_map (n : Nat) : dgs n = (List.range (dgs n).length).map fun i => if n.testBit i then 49 else 48 := by
  apply List.ext_getElem?
  intro i
  cases h : (dgs n)[i]? with
  | none =>
    have := List.getElem?_eq_none_iff.mp h
    rw [List.getElem?_eq_none (by rw [List.length_map, List.length_range]; exact this)]
  | some c =>
    have hl := (List.getElem?_eq_some_iff.mp h).1
    rw [dgs_at i n c h, List.getElem?_map, List.getElem?_range hl]
    rfl
theorem dgs_len {n k : Nat} (hk : 0 < k) : (dgs n).length ≤ k ↔ n < 2 ^ k := by
  unfold dgs
  rw [List.length_reverse, List.length_map]
  exact Nat.length_toDigits_le_iff (by decide) hk
theorem dgs_pos {n : Nat} : 0 < (dgs n).length := by
  rw [dgs_eq]
  split <;> simp
theorem dgs_lt {n : Nat} : n < 2 ^ (dgs n).length := (dgs_len dgs_pos).mp (Nat.le_refl _)
def onesOf (n : Nat) : List Nat := (List.range (dgs n).length).filter fun i => n.testBit i
theorem ones_eq {n : Nat} {S : List Nat} (h : Bits n S) (hs : S.Pairwise (· < ·)) : onesOf n = S := by
  refine lt_uniqN (List.pairwise_lt_range.filter _) hs fun k => ?_
  unfold onesOf
  rw [List.mem_filter, List.mem_range, h k, decide_eq_true_eq]
  refine ⟨fun z => z.2, fun z => ⟨?_, z⟩⟩
  apply Classical.byContradiction
  intro hn
  have := Nat.testBit_lt_two_pow (Nat.lt_of_lt_of_le (dgs_lt (n := n)) (Nat.pow_le_pow_right (by decide) (Nat.le_of_not_lt hn)))
  rw [h k] at this
  exact absurd z (of_decide_eq_false this)
theorem low_bit {n l : Nat} {S : List Nat} (h : Bits n (l :: S)) (hs : (l :: S).Pairwise (· < ·)) : n - (n &&& (n - 1)) = 2 ^ l := by
  obtain ⟨h1, h2⟩ := List.pairwise_cons.mp hs
  have em : n % 2 ^ (l + 1) = 2 ^ l := Nat.eq_of_testBit_eq fun i => by
    rw [Nat.testBit_mod_two_pow, h i, Nat.testBit_two_pow]
    by_cases hi : l = i
    · subst hi; simp
    · by_cases hlt : i < l + 1
      · have : i ∉ l :: S := fun z => by
          rcases List.mem_cons.mp z with e | z
          · exact hi e.symm
          · have := h1 i z; omega
        rw [decide_eq_false this, decide_eq_false hi, Bool.and_false]
      · rw [decide_eq_false hlt, decide_eq_false hi, Bool.false_and]
  have ed : n = n / 2 ^ (l + 1) * 2 ^ (l + 1) + 2 ^ l := by
    have := Nat.div_add_mod' n (2 ^ (l + 1))
    rw [em] at this
    exact this.symm
  generalize n / 2 ^ (l + 1) = q at ed
  have hpos : 0 < 2 ^ l := Nat.two_pow_pos l
  have lt1 : 2 ^ l < 2 ^ (l + 1) := Nat.pow_lt_pow_right (by decide) (by omega)
  have key : n &&& (n - 1) = q * 2 ^ (l + 1) := Nat.eq_of_testBit_eq fun i => by
    have e1 : n = 2 ^ (l + 1) * q + 2 ^ l := by rw [Nat.mul_comm]; exact ed
    have e2 : n - 1 = 2 ^ (l + 1) * q + (2 ^ l - 1) := by omega
    rw [Nat.testBit_and, e2, e1, Nat.testBit_two_pow_mul_add q lt1, Nat.testBit_two_pow_mul_add q (by omega : 2 ^ l - 1 < 2 ^ (l + 1)), Nat.mul_comm q, Nat.testBit_two_pow_mul]
    by_cases hi : i < l + 1
    · rw [if_pos hi, if_pos hi, Nat.testBit_two_pow, Nat.testBit_two_pow_sub_one, decide_eq_false (by omega : ¬ i ≥ l + 1), Bool.false_and]
      by_cases hl : l = i
      · subst hl; simp
      · rw [decide_eq_false hl, Bool.false_and]
    · rw [if_neg hi, if_neg hi, decide_eq_true (by omega : i ≥ l + 1), Bool.true_and, Bool.and_self]
  rw [key, ed]
  omega
theorem and_neg {n l : Nat} {S : List Nat} (h : Bits n (l :: S)) (hs : (l :: S).Pairwise (· < ·)) : Builtin.bitAnd (n : Int) (-(n : Int)) = ((2 ^ l : Nat) : Int) := by
  have hn : 0 < n := by
    apply Classical.byContradiction
    intro z
    obtain rfl : n = 0 := by omega
    have := h l
    simp at this
  unfold Builtin.bitAnd
  rw [decide_eq_true (by omega : 0 ≤ (n : Int)), decide_eq_false (by omega : ¬ 0 ≤ -(n : Int))]
  show (n : Int) - (((n : Int).toNat &&& (Builtin.bitNot (-(n : Int))).toNat : Nat) : Int) = _
  have e : (Builtin.bitNot (-(n : Int))).toNat = n - 1 := by
    show (- -(n : Int) - 1).toNat = n - 1
    omega
  rw [e, Int.toNat_natCast]
  have := low_bit h hs
  have hle : n &&& (n - 1) ≤ n := Nat.and_le_left
  omega
theorem bits_pow (l : Nat) : Builtin.Int.intBits ((2 ^ l : Nat) : Int) = l + 1 := by
  unfold Builtin.Int.intBits
  have hp : 0 < 2 ^ l := Nat.two_pow_pos l
  rw [if_neg (by simpa using (by omega : ((2 ^ l : Nat) : Int) ≠ 0)), Int.natAbs_natCast, Nat.log2_two_pow]

theorem bits_le {n k : Nat} : Builtin.Int.intBits (n : Int) ≤ k ↔ n < 2 ^ k := by
  unfold Builtin.Int.intBits
  by_cases h : n = 0
  · subst h
    simp
    exact Nat.two_pow_pos k
  · rw [if_neg (by simpa using (by omega : (n : Int) ≠ 0)), Int.natAbs_natCast, ← Nat.log2_lt h]
    omega
def TOP : Nat := 2 ^ 5001
theorem gl0 {K : PV → Prop} : cGl P.glbs[0]? K = K (.int 5000) := rfl
theorem oS : ("1" : Str) = zS [49] := by decide +kernel
theorem hdr : P.fns[6]? = some f_draw := rfl
theorem hpo : P.fns[5]? = some f_pool := rfl
theorem hwi : P.fns[7]? = some (f_wide 6) := rfl
def Bad (m : Int) : Prop := m < 0 ∨ (TOP : Int) ≤ m
theorem ok49 : PyData.strOk (zS [49]) = true := zS_ok (by simp)
theorem ok48 : PyData.strOk (zS [48]) = true := zS_ok (by simp)
theorem pe11 : peq (.str (zS [49])) (.str (zS [49])) = true := by decide
theorem pe01 : peq (.str (zS [48])) (.str (zS [49])) = false := by decide
local macro_rules | `(tactic| infer_instance) => `(tactic| simp only [↓wSs_nil, ↓wSs_cons, ↓wS_asg, ↓wS_asgT, ↓wS_par, ↓wS_exp, ↓wS_ifs, ↓wS_ret0, ↓wS_raise, ↓wS_raise0, ↓wS_brk, ↓wS_cnt, ↓wS_retV, ↓wS_ret_glb, ↓wS_ret_cst, ↓wS_ret_prim, ↓wS_ret_not, ↓wS_ret_bop, ↓wS_ret_chn, ↓wS_ret_call, ↓wS_ret_lc, ↓wS_ret_exf, ↓wS_ret_slc, ↓wS_for, ↓wS_try, ↓wA_var, ↓wA_glb, ↓wA_cst, ↓wA_op, ↓wA_cmp, ↓wA_neg, ↓wA_ix, ↓wA_len, ↓wA_toInt, ↓wA_abs, ↓wA_toTup, ↓wA_toLst, ↓wA_isi, ↓wA_bits, ↓wA_fmtB, ↓wA_rev, ↓wA_cnt, ↓wA_sset, ↓wA_lrng, ↓wA_sorted, ↓wA_min, ↓wA_max, ↓wA_tup, ↓wA_lst, ↓wA_not, ↓wA_bop, ↓wB_1, ↓wB_2, ↓wA_chn, ↓wA_chn3, ↓wA_exi, ↓wA_exv, ↓wA_slc, ↓wP_nil, ↓wP_one, ↓wA_call, ↓wA_exf, ↓wAs_nil, ↓wAs_cons, ↓wI_ex, ↓wI_rng1, ↓wI_rng2, ↓wI_rng3, ↓cRg_2, ↓cRg_3, ↓wT_eq, ↓wTs_nil, ↓wTs_cons, ↓cRd_0, ↓cRd_1, ↓cVl_val, ↓cVl_own, ↓cOw_0, ↓cOw_1, ↓cVls_nil, ↓cVls_cons, ↓cSt_val, ↓cSt_own, ↓cSo_eq, ↓cSts_nil, ↓cSts_cons, ↓cAc_val, ↓cTr_bl, ↓cTr_int, ↓cTr_lst, ↓cTr_tup, ↓cTr_scr, ↓cTr_non, ↓cPr_add, ↓cPr_sub, ↓cPr_mul, ↓cPr_mulL, ↓cPr_addL, ↓cPr_addZ, ↓cPr_fdiv, ↓cPr_mod, ↓cPr_pow, ↓cPr_shl, ↓cPr_shr, ↓cPr_neg, ↓cPr_lt, ↓cPr_le, ↓cPr_gt, ↓cPr_ge, ↓cPr_eqI, ↓cPr_neI, ↓cPr_eq, ↓cPr_ne, ↓cPr_tup, ↓cPr_lst, ↓cIx_eq, ↓cIx_eqL, ↓cIx_eqS, ↓cIx_eqZ, ↓cIx_0, ↓cIx_1, ↓cIx_2, ↓cIx_3, ↓cIx_4, ↓cIx_5, ↓cIx_6, ↓cIx_7, ↓cPr_lenL, ↓cPr_lenT, ↓cPr_lenS, ↓cPr_lenZ, ↓cPr_bits, ↓cPr_fmtB, ↓cPr_rev, ↓cPr_cnt, ↓cPr_lrng, ↓cPr_band, ↓cPr_bor, ↓cPr_sset, ↓cPr_toInt, ↓cPr_toIntB, ↓cPr_abs, ↓cPr_toLstL, ↓cPr_toLstT, ↓cPr_toTupL, ↓cPr_toTupT, ↓cPr_min, ↓cPr_max, ↓cPr_sorted, ↓cPr_inI2, ↓cPr_ninI2, ↓cPr_inZ, ↓cPr_ninZ, ↓cSg_1, ↓cPr_inT2, ↓cPr_ninT2, ↓cPr_isiI, ↓cPr_isiB, ↓cPr_isiN, ↓cPr_isiT, ↓cPr_isiL, ↓cPr_isiS, ↓cPr_isN, ↓cPr_isI, ↓cPr_isT, ↓cPr_isL, ↓cPr_inN, ↓cPr_inI, ↓cPr_inT, ↓cPr_inL, ↓cIn_int, ↓cCut_lst, ↓cCut_str, ↓cCm_lt, ↓cCm_le, ↓cCm_gt, ↓cCm_ge, ↓cGl_eq, ↓cLe_nil, ↓cLe_val, ↓cLe_own, ↓cLo_eq, ↓cTg_nm, ↓cTg_tup, ↓cTo_n, ↓cTo_f, ↓cTgs_nil, ↓cTgs_cons, ↓cPa_nil, ↓cPa_cons, ↓cLs_eq, ↓cHd_n, ↓cHd_f, ↓wIf_t, ↓wIf_f, ↓wAsk_true, ↓cAc_own, ↓cFz_eq, ↓fV_nil, ↓fV_cons, ↓cV_nil, ↓cV_cons, ↓cSx_0, ↓cSx_1, ↓wH_app, ↓wH_setix, ↓wH_whl, ↓wL_lc, ↓cIt_tup, ↓cIt_lst, ↓cIt_str, ↓cIt_scr, ↓wI_enu, ↓cIe_lst, ↓cIe_str, ↓cIe_scr, Option.getD_some, Option.getD_none, Bool.or_true, Bool.true_or, Bool.or_false, Bool.false_or, reduceCtorEq, Nat.reduceSub, Int.cast_ofNat_Int, Int.natCast_zero, Int.natCast_one, okD_int, okD_bl, okD_non, okD_nilL, okD_nilT, peq_nilL, peq_nilT, peq_int, peq_str, peq_bl, okD_bls2, peq_bls2, okD_bls3, peq_bls3, okD_str, dneN, Nat.reduceBEq, Nat.reduceAdd, Nat.reduceLeDiff, sizeMax, Nat.zero_add, Int.reduceToNat, Int.reducePow, Int.reduceSub, Int.reduceAdd, Int.reduceMul, Int.reduceNeg, Int.reduceLT, Int.reduceLE, Int.reduceEq, beq_true, beq_false, wIf_n, wIf_t, wIf_f, wAsk_true, back, List.set_cons_zero, List.set_cons_succ, List.getElem?_cons_zero, List.getElem?_cons_succ, List.nil_append, List.cons_append, List.map_cons, List.map_nil, List.replicate_zero, List.replicate_succ, List.length_cons, List.length_nil, noLent, List.all_nil, List.all_cons, finals_some, finals_none, finals_0, Bool.and_true, Bool.true_and, Bool.not_true, Bool.not_false, decide_true, decide_false, Bool.false_eq_true, ite_true, ite_false, if_true, if_false, and_self, and_true, true_and, eq_self, clr, unwipe, wipeE, ↓K03.gl0, K03.oS, zS_len, zS_cps, zS_add, zS_one, K03.ok49, K03.ok48, K03.pe11, K03.pe01])
local macro_rules | `(tactic| left) => `(tactic| first | (with_reducible assumption) | (with_reducible refine mulOk_of ⟨?_, ?_⟩ ⟨?_, ?_⟩ <;> omega) | (with_reducible refine divOk_of ?_ ?_ <;> omega) | omega | (with_reducible refine rngOk3_of ?_; omega) | (with_reducible refine ⟨rngOk_of ?_, rngOk_of ?_⟩ <;> omega) | (simp only [List.length_cons, List.length_nil, sizeMax]; omega))
local macro_rules | `(tactic| and_intros) => `(tactic| repeat (first | infer_instance | ((with_reducible refine wAsk_of ?_ ?_); (focus left)) | with_reducible refine wS_setix ?_ | with_reducible refine wS_app ?_))

section
variable {n : Nat} {K : PV → Nat → List (PV × Nat) → Prop} {X : Nat → PV → List (PV × Nat) → Prop} {mk : Mark (PProd.mk K X)}
theorem hf0 : P.fns[0]? = some f_check_mask := rfl
theorem check_w {m : Int} (h : ¬ Bad m → ∀ y, K .non 0 [y]) (h2 : Bad m → ∀ y, X 0 (.int m) [y]) : CR.w (callAt P (n + 1) 0 [⟨.int m, 0, false⟩]) K X mk := by
  refine fn_w hf0 rfl ?_
  simp only [f_check_mask]
  and_intros
  refine wIf_p (fun c => ?_) (fun c => ?_)
  · and_intros
    exact h2 (.inl c) _
  obtain ⟨k, rfl⟩ : ∃ k : Nat, m = k := ⟨m.toNat, by omega⟩
  have e : (Builtin.Int.intBits (k : Int) ≤ 5001) ↔ k < TOP := bits_le
  and_intros
  refine wIf_p (fun c => ?_) (fun c => ?_)
  · and_intros
    exact h2 (.inr (by omega)) _
  · and_intros
    exact h (fun z => by rcases z with z | z <;> omega) _
def badP (p : Int) : Bool := decide (p < 0) || decide (5000 < p)
def Sl (ps : List Int) (R : PV) (d : Nat) (l : Bool) : Prop := (d = 1 ∧ l = true ∧ R = .lst (ps.map PV.int)) ∨ (d = 0 ∧ l = false ∧ R = .tup (ps.map PV.int))
theorem hf1 : P.fns[1]? = some f_mask_of := rfl
theorem mask_of_w {ps : List Int} {R : PV} {d : Nat} {l : Bool} (hR : Sl ps R d l) (h : ∀ M : Nat, ps.filter badP = [] → Bits M (ps.map Int.toNat) → K (.int M) 0 [(R, 0)]) (h2 : ∀ w r, ps.filter badP = w :: r → X 0 (.int w) [(R, 0)]) :
    CR.w (callAt P (n + 1) 1 [⟨R, d, l⟩]) K X mk := by
  refine fn_w hf1 rfl ?_
  simp only [f_mask_of]
  rcases hR with ⟨rfl, rfl, rfl⟩ | ⟨rfl, rfl, rfl⟩
  all_goals
    simp only [↓wSs_nil, ↓wSs_cons, ↓wS_asg, ↓wS_asgT, ↓wS_par, ↓wS_exp, ↓wS_ifs, ↓wS_ret0, ↓wS_raise, ↓wS_raise0, ↓wS_brk, ↓wS_cnt, ↓wS_retV, ↓wS_ret_glb, ↓wS_ret_cst, ↓wS_ret_prim, ↓wS_ret_not, ↓wS_ret_bop, ↓wS_ret_chn, ↓wS_ret_call, ↓wS_ret_lc, ↓wS_ret_exf, ↓wS_ret_slc, ↓wS_for, ↓wS_try, ↓wA_var, ↓wA_glb, ↓wA_cst, ↓wA_op, ↓wA_cmp, ↓wA_neg, ↓wA_ix, ↓wA_len, ↓wA_toInt, ↓wA_abs, ↓wA_toTup, ↓wA_toLst, ↓wA_isi, ↓wA_bits, ↓wA_fmtB, ↓wA_rev, ↓wA_cnt, ↓wA_sset, ↓wA_lrng, ↓wA_sorted, ↓wA_min, ↓wA_max, ↓wA_tup, ↓wA_lst, ↓wA_not, ↓wA_bop, ↓wB_1, ↓wB_2, ↓wA_chn, ↓wA_chn3, ↓wA_exi, ↓wA_exv, ↓wA_slc, ↓wP_nil, ↓wP_one, ↓wA_call, ↓wA_exf, ↓wAs_nil, ↓wAs_cons, ↓wI_ex, ↓wI_rng1, ↓wI_rng2, ↓wI_rng3, ↓cRg_2, ↓cRg_3, ↓wT_eq, ↓wTs_nil, ↓wTs_cons, ↓cRd_0, ↓cRd_1, ↓cVl_val, ↓cVl_own, ↓cOw_0, ↓cOw_1, ↓cVls_nil, ↓cVls_cons, ↓cSt_val, ↓cSt_own, ↓cSo_eq, ↓cSts_nil, ↓cSts_cons, ↓cAc_val, ↓cTr_bl, ↓cTr_int, ↓cTr_lst, ↓cTr_tup, ↓cTr_scr, ↓cTr_non, ↓cPr_add, ↓cPr_sub, ↓cPr_mul, ↓cPr_mulL, ↓cPr_addL, ↓cPr_addZ, ↓cPr_fdiv, ↓cPr_mod, ↓cPr_pow, ↓cPr_shl, ↓cPr_shr, ↓cPr_neg, ↓cPr_lt, ↓cPr_le, ↓cPr_gt, ↓cPr_ge, ↓cPr_eqI, ↓cPr_neI, ↓cPr_eq, ↓cPr_ne, ↓cPr_tup, ↓cPr_lst, ↓cIx_eq, ↓cIx_eqL, ↓cIx_eqS, ↓cIx_eqZ, ↓cIx_0, ↓cIx_1, ↓cIx_2, ↓cIx_3, ↓cIx_4, ↓cIx_5, ↓cIx_6, ↓cIx_7, ↓cPr_lenL, ↓cPr_lenT, ↓cPr_lenS, ↓cPr_lenZ, ↓cPr_bits, ↓cPr_fmtB, ↓cPr_rev, ↓cPr_cnt, ↓cPr_lrng, ↓cPr_band, ↓cPr_bor, ↓cPr_sset, ↓cPr_toInt, ↓cPr_toIntB, ↓cPr_abs, ↓cPr_toLstL, ↓cPr_toLstT, ↓cPr_toTupL, ↓cPr_toTupT, ↓cPr_min, ↓cPr_max, ↓cPr_sorted, ↓cPr_inI2, ↓cPr_ninI2, ↓cPr_inZ, ↓cPr_ninZ, ↓cSg_1, ↓cPr_inT2, ↓cPr_ninT2, ↓cPr_isiI, ↓cPr_isiB, ↓cPr_isiN, ↓cPr_isiT, ↓cPr_isiL, ↓cPr_isiS, ↓cPr_isN, ↓cPr_isI, ↓cPr_isT, ↓cPr_isL, ↓cPr_inN, ↓cPr_inI, ↓cPr_inT, ↓cPr_inL, ↓cIn_int, ↓cCut_lst, ↓cCut_str, ↓cCm_lt, ↓cCm_le, ↓cCm_gt, ↓cCm_ge, ↓cGl_eq, ↓cLe_nil, ↓cLe_val, ↓cLe_own, ↓cLo_eq, ↓cTg_nm, ↓cTg_tup, ↓cTo_n, ↓cTo_f, ↓cTgs_nil, ↓cTgs_cons, ↓cPa_nil, ↓cPa_cons, ↓cLs_eq, ↓cHd_n, ↓cHd_f, ↓wIf_t, ↓wIf_f, ↓wAsk_true, ↓cAc_own, ↓cFz_eq, ↓fV_nil, ↓cV_nil, ↓cSx_0, ↓cSx_1, ↓wH_app, ↓wH_setix, ↓wH_whl, ↓wL_lc, ↓cIt_tup, ↓cIt_lst, ↓cIt_str, ↓cIt_scr, ↓wI_enu, ↓cIe_lst, ↓cIe_str, ↓cIe_scr, Option.getD_some, Option.getD_none, Bool.or_true, Bool.true_or, Bool.or_false, Bool.false_or, reduceCtorEq, Nat.reduceSub, Int.cast_ofNat_Int, Int.natCast_zero, Int.natCast_one, okD_int, okD_bl, okD_non, okD_nilL, okD_nilT, peq_nilL, peq_nilT, peq_int, peq_str, peq_bl, okD_bls2, peq_bls2, okD_bls3, peq_bls3, okD_str, dneN, Nat.reduceBEq, Nat.reduceAdd, Nat.reduceLeDiff, sizeMax, Nat.zero_add, Int.reduceToNat, Int.reducePow, Int.reduceSub, Int.reduceAdd, Int.reduceMul, Int.reduceNeg, Int.reduceLT, Int.reduceLE, Int.reduceEq, beq_true, beq_false, wIf_n, wIf_t, wIf_f, wAsk_true, back, List.set_cons_zero, List.set_cons_succ, List.getElem?_cons_zero, List.getElem?_cons_succ, List.nil_append, List.cons_append, List.map_cons, List.map_nil, List.replicate_zero, List.replicate_succ, List.length_cons, List.length_nil, noLent, List.all_nil, List.all_cons, finals_some, finals_none, finals_0, Bool.and_true, Bool.true_and, Bool.not_true, Bool.not_false, decide_true, decide_false, Bool.false_eq_true, ite_true, ite_false, if_true, if_false, and_self, and_true, true_and, eq_self, clr, unwipe, wipeE]
    refine fV_inv (fun done rest e => ∃ (dn rs : List Int) (M : Nat) (o : Option MP.Slot), (rest = rs.map PV.int ∧ ps = dn ++ rs ∧ dn.filter badP = [] ∧ Bits M (dn.map Int.toNat) ∧ (o = none ∨ ∃ z, o = some ⟨z, 0, false⟩)) ∧ e = [some ⟨_, 0, _⟩, some ⟨.int M, 0, false⟩, o]) ⟨[], ps, 0, none, ⟨rfl, rfl, rfl, Bits.nil, .inl rfl⟩, rfl⟩ ?_ ?_
    · rintro done y ys e ⟨dn, rs, M, o, ⟨hr, hd, hb, hM, ho⟩, rfl⟩
      cases rs with
      | nil => simp at hr
      | cons p rs =>
        obtain ⟨rfl, rfl⟩ : y = .int p ∧ ys = rs.map PV.int := by simpa using hr
        have bad : badP p = true → ps.filter badP = p :: rs.filter badP := fun c => by rw [hd, List.filter_append, hb, List.filter_cons_of_pos c]; rfl
        rcases ho with rfl | ⟨z, rfl⟩
        all_goals
          and_intros
          refine wIf_p (fun c => ?_) (fun c => ?_)
          · and_intros
            refine wIf_p (fun c2 => ?_) (fun c2 => ?_)
            · and_intros
              rw [L2.bitOr_nn (by omega) (by rw [Int.one_mul]; exact Int.pow_nonneg (by decide))]
              have e2 : (1 * (2 : Int) ^ p.toNat).toNat = 2 ^ p.toNat := by
                rw [Int.one_mul, show ((2 : Int) ^ p.toNat) = ((2 ^ p.toNat : Nat) : Int) by rw [Int.natCast_pow]; rfl, Int.toNat_natCast]
              rw [e2, Int.toNat_natCast]
              refine ⟨dn ++ [p], rs, M ||| 2 ^ p.toNat, some ⟨.int p, 0, false⟩, ⟨rfl, by rw [hd]; simp, ?_, ?_, .inr ⟨_, rfl⟩⟩, rfl⟩
              · rw [List.filter_append, hb, List.filter_cons_of_neg]
                · rfl
                · unfold badP
                  rw [decide_eq_false (by omega), decide_eq_false (by omega)]
                  decide
              · rw [List.map_append]
                exact hM.or
            · and_intros
              exact h2 _ _ (bad (by unfold badP; rw [decide_eq_true (by omega : 5000 < p), Bool.or_true]))
          · and_intros
            exact h2 _ _ (bad (by unfold badP; rw [decide_eq_true (by omega : p < 0), Bool.true_or]))
    · rintro done e ⟨dn, rs, M, o, ⟨hr, hd, hb, hM, ho⟩, rfl⟩
      cases rs with
      | cons => simp at hr
      | nil =>
        rw [List.append_nil] at hd
        subst hd
        and_intros
        exact h M hb hM
theorem hf2 : P.fns[2]? = some f_positions_of := rfl
theorem bin_eq {N : Nat} : binS N = zS (dgs N).reverse := by
  unfold dgs
  rw [List.reverse_reverse]
  rfl
theorem dlen {N : Nat} (h : N < TOP) : (dgs N).length ≤ 5001 := (dgs_len (by decide)).mpr h
theorem positions_w {N : Nat} {S : List Nat} (hb : Bits N S) (hs : S.Pairwise (· < ·)) (hN : N < TOP) (h : ∀ y, K (.tup (S.map fun k : Nat => PV.int k)) 0 [y]) : CR.w (callAt P (n + 2) 2 [⟨.int N, 0, false⟩]) K X mk := by
  refine fn_w hf2 rfl ?_
  have dl := dlen hN
  simp only [f_positions_of]
  and_intros
  refine check_w (fun _ y => ?_) (fun c => absurd c (fun z => by rcases z with z | z <;> omega))
  and_intros
  rw [Int.natAbs_natCast, bin_eq]
  refine wAsk_of ⟨by omega, by rw [zS_len, List.length_reverse]; omega⟩ ?_
  and_intros
  with_reducible refine wA_lc ?_
  simp only [↓wSs_nil, ↓wSs_cons, ↓wS_asg, ↓wS_asgT, ↓wS_par, ↓wS_exp, ↓wS_ifs, ↓wS_ret0, ↓wS_raise, ↓wS_raise0, ↓wS_brk, ↓wS_cnt, ↓wS_retV, ↓wS_ret_glb, ↓wS_ret_cst, ↓wS_ret_prim, ↓wS_ret_not, ↓wS_ret_bop, ↓wS_ret_chn, ↓wS_ret_call, ↓wS_ret_lc, ↓wS_ret_exf, ↓wS_ret_slc, ↓wS_for, ↓wS_try, ↓wA_var, ↓wA_glb, ↓wA_cst, ↓wA_op, ↓wA_cmp, ↓wA_neg, ↓wA_ix, ↓wA_len, ↓wA_toInt, ↓wA_abs, ↓wA_toTup, ↓wA_toLst, ↓wA_isi, ↓wA_bits, ↓wA_fmtB, ↓wA_rev, ↓wA_cnt, ↓wA_sset, ↓wA_lrng, ↓wA_sorted, ↓wA_min, ↓wA_max, ↓wA_tup, ↓wA_lst, ↓wA_not, ↓wA_bop, ↓wB_1, ↓wB_2, ↓wA_chn, ↓wA_chn3, ↓wA_exi, ↓wA_exv, ↓wA_slc, ↓wP_nil, ↓wP_one, ↓wA_call, ↓wA_exf, ↓wAs_nil, ↓wAs_cons, ↓wI_ex, ↓wI_rng1, ↓wI_rng2, ↓wI_rng3, ↓cRg_2, ↓cRg_3, ↓wT_eq, ↓wTs_nil, ↓wTs_cons, ↓cRd_0, ↓cRd_1, ↓cVl_val, ↓cVl_own, ↓cOw_0, ↓cOw_1, ↓cVls_nil, ↓cVls_cons, ↓cSt_val, ↓cSt_own, ↓cSo_eq, ↓cSts_nil, ↓cSts_cons, ↓cAc_val, ↓cTr_bl, ↓cTr_int, ↓cTr_lst, ↓cTr_tup, ↓cTr_scr, ↓cTr_non, ↓cPr_add, ↓cPr_sub, ↓cPr_mul, ↓cPr_mulL, ↓cPr_addL, ↓cPr_addZ, ↓cPr_fdiv, ↓cPr_mod, ↓cPr_pow, ↓cPr_shl, ↓cPr_shr, ↓cPr_neg, ↓cPr_lt, ↓cPr_le, ↓cPr_gt, ↓cPr_ge, ↓cPr_eqI, ↓cPr_neI, ↓cPr_eq, ↓cPr_ne, ↓cPr_tup, ↓cPr_lst, ↓cIx_eq, ↓cIx_eqL, ↓cIx_eqS, ↓cIx_eqZ, ↓cIx_0, ↓cIx_1, ↓cIx_2, ↓cIx_3, ↓cIx_4, ↓cIx_5, ↓cIx_6, ↓cIx_7, ↓cPr_lenL, ↓cPr_lenT, ↓cPr_lenS, ↓cPr_lenZ, ↓cPr_bits, ↓cPr_fmtB, ↓cPr_rev, ↓cPr_cnt, ↓cPr_lrng, ↓cPr_band, ↓cPr_bor, ↓cPr_sset, ↓cPr_toInt, ↓cPr_toIntB, ↓cPr_abs, ↓cPr_toLstL, ↓cPr_toLstT, ↓cPr_toTupL, ↓cPr_toTupT, ↓cPr_min, ↓cPr_max, ↓cPr_sorted, ↓cPr_inI2, ↓cPr_ninI2, ↓cPr_inZ, ↓cPr_ninZ, ↓cSg_1, ↓cPr_inT2, ↓cPr_ninT2, ↓cPr_isiI, ↓cPr_isiB, ↓cPr_isiN, ↓cPr_isiT, ↓cPr_isiL, ↓cPr_isiS, ↓cPr_isN, ↓cPr_isI, ↓cPr_isT, ↓cPr_isL, ↓cPr_inN, ↓cPr_inI, ↓cPr_inT, ↓cPr_inL, ↓cIn_int, ↓cCut_lst, ↓cCut_str, ↓cCm_lt, ↓cCm_le, ↓cCm_gt, ↓cCm_ge, ↓cGl_eq, ↓cLe_nil, ↓cLe_val, ↓cLe_own, ↓cLo_eq, ↓cTg_nm, ↓cTg_tup, ↓cTo_n, ↓cTo_f, ↓cTgs_nil, ↓cTgs_cons, ↓cPa_nil, ↓cPa_cons, ↓cLs_eq, ↓cHd_n, ↓cHd_f, ↓wIf_t, ↓wIf_f, ↓wAsk_true, ↓cAc_own, ↓cFz_eq, ↓fV_nil, ↓cV_nil, ↓cSx_0, ↓cSx_1, ↓wH_app, ↓wH_setix, ↓wH_whl, ↓wL_lc, ↓cIt_tup, ↓cIt_lst, ↓cIt_str, ↓cIt_scr, ↓wI_enu, ↓cIe_lst, ↓cIe_str, ↓cIe_scr, Option.getD_some, Option.getD_none, Bool.or_true, Bool.true_or, Bool.or_false, Bool.false_or, reduceCtorEq, Nat.reduceSub, Int.cast_ofNat_Int, Int.natCast_zero, Int.natCast_one, okD_int, okD_bl, okD_non, okD_nilL, okD_nilT, peq_nilL, peq_nilT, peq_int, peq_str, peq_bl, okD_bls2, peq_bls2, okD_bls3, peq_bls3, okD_str, dneN, Nat.reduceBEq, Nat.reduceAdd, Nat.reduceLeDiff, sizeMax, Nat.zero_add, Int.reduceToNat, Int.reducePow, Int.reduceSub, Int.reduceAdd, Int.reduceMul, Int.reduceNeg, Int.reduceLT, Int.reduceLE, Int.reduceEq, beq_true, beq_false, wIf_n, wIf_t, wIf_f, wAsk_true, back, List.set_cons_zero, List.set_cons_succ, List.getElem?_cons_zero, List.getElem?_cons_succ, List.nil_append, List.cons_append, List.map_cons, List.map_nil, List.replicate_zero, List.replicate_succ, List.length_cons, List.length_nil, noLent, List.all_nil, List.all_cons, finals_some, finals_none, finals_0, Bool.and_true, Bool.true_and, Bool.not_true, Bool.not_false, decide_true, decide_false, Bool.false_eq_true, ite_true, ite_false, if_true, if_false, and_self, and_true, true_and, eq_self, clr, unwipe, wipeE, zS_len, zS_cps, List.length_reverse]
  refine wAsk_of (by omega) ?_
  rw [List.reverse_reverse]
  refine cV_ind (fun rest acc e => ∃ k : Nat, (k ≤ (dgs N).length ∧ rest = enumF (k : Int) (((dgs N).drop k).map fun c => PV.str ⟨#[c]⟩) ∧ acc = ((List.range k).filter fun i => N.testBit i).map fun k : Nat => PV.int k) ∧ e = [some ⟨.int N, 0, false⟩, some ⟨.str (zS (dgs N).reverse), 0, false⟩, none, none]) ?_ ?_ _ _ _ ⟨0, ⟨Nat.zero_le _, rfl, rfl⟩, rfl⟩
  · rintro x rest acc e ⟨k, ⟨hk, hr, ha⟩, rfl⟩
    have acl : acc.length ≤ k := by
      rw [ha, List.length_map]
      exact Nat.le_trans (List.length_filter_le _ _) (by rw [List.length_range]; exact Nat.le_refl _)
    rcases Nat.lt_or_ge k (dgs N).length with lt | ge
    · have dr : (dgs N).drop k = (if N.testBit k then 49 else 48) :: (dgs N).drop (k + 1) := by
        rw [List.drop_eq_getElem_cons lt, ← dgs_at k N _ (List.getElem?_eq_getElem lt)]
      rw [dr] at hr
      obtain ⟨rfl, rfl⟩ : x = .tup [.int k, .str ⟨#[if N.testBit k then 49 else 48]⟩] ∧ rest = enumF ((k + 1 : Nat) : Int) (((dgs N).drop (k + 1)).map fun c => PV.str ⟨#[c]⟩) := by
        rw [List.map_cons] at hr
        exact List.cons.inj hr
      have e1 : (List.range (k + 1)).filter (fun i => N.testBit i) = (List.range k).filter (fun i => N.testBit i) ++ if N.testBit k then [k] else [] := by
        rw [List.range_succ, List.filter_append]
        cases hq : N.testBit k <;> simp [hq]
      cases hb : N.testBit k with
      | true =>
        rw [hb] at e1
        rw [if_pos rfl]
        infer_instance
        refine wAsk_of (by omega) ?_
        exact ⟨k + 1, ⟨lt, rfl, by rw [e1, ha, List.map_append]; rfl⟩, rfl⟩
      | false =>
        rw [hb] at e1
        rw [if_neg (by decide)]
        infer_instance
        exact ⟨k + 1, ⟨lt, rfl, by rw [e1, ha, List.map_append]; simp⟩, rfl⟩
    · rw [List.drop_eq_nil_of_le ge] at hr
      cases hr
  · rintro acc e ⟨k, ⟨hk, hr, ha⟩, rfl⟩
    have ek : k = (dgs N).length := by
      apply Classical.byContradiction
      intro z
      rw [List.drop_eq_getElem_cons (by omega : k < (dgs N).length)] at hr
      cases hr
    subst ek
    have e1 := ones_eq hb hs
    unfold onesOf at e1
    rw [e1] at ha
    subst ha
    and_intros
    exact h _
theorem positions_bad {m : Int} (hm : Bad m) (h : ∀ y, X 0 (.int m) [y]) : CR.w (callAt P (n + 2) 2 [⟨.int m, 0, false⟩]) K X mk := by
  refine fn_w hf2 rfl ?_
  simp only [f_positions_of]
  and_intros
  refine check_w (fun c y => absurd hm c) (fun c y => ?_)
  and_intros
  exact h _
theorem hf3 : P.fns[3]? = some f_size_of := rfl
theorem cnt_rev {c : Nat} : ∀ l : List Nat, PyProof.Rows.cnt c l.reverse = PyProof.Rows.cnt c l
  | [] => rfl
  | x :: l => by
    rw [List.reverse_cons, PyProof.Rows.cnt_append, cnt_rev l, PyProof.Rows.cnt_cons, PyProof.Rows.cnt_cons, PyProof.Rows.cnt_nil]
    omega
theorem cnt_bits {N : Nat} : ∀ k : Nat, PyProof.Rows.cnt 49 ((List.range k).map fun i => if N.testBit i then 49 else 48) = (((List.range k).filter fun i => N.testBit i).length : Int)
  | 0 => rfl
  | k + 1 => by
    rw [List.range_succ, List.map_append, PyProof.Rows.cnt_append, cnt_bits k, List.filter_append, List.length_append]
    cases h : N.testBit k with
    | true =>
      rw [List.map_singleton, h, if_pos rfl, PyProof.Rows.cnt_cons, if_pos rfl, PyProof.Rows.cnt_nil, List.filter_cons_of_pos h]
      simp
    | false =>
      rw [List.map_singleton, h, if_neg (by decide), PyProof.Rows.cnt_cons, if_neg (by decide), PyProof.Rows.cnt_nil, List.filter_cons_of_neg (by rw [h]; decide)]
      simp
theorem count_dgs {N : Nat} {S : List Nat} (hb : Bits N S) (hs : S.Pairwise (· < ·)) : Txt.count (zS (dgs N).reverse) (zS [49]) = (S.length : Int) := by
  have e : Txt.count (zS (dgs N).reverse) (zS [49]) = PyProof.Rows.cnt 49 (dgs N).reverse := PyProof.Rows.count_is (zS (dgs N).reverse) 49
  rw [e, cnt_rev, dgs_map, cnt_bits]
  have := ones_eq hb hs
  unfold onesOf at this
  rw [this]
theorem size_w {N : Nat} {S : List Nat} (hb : Bits N S) (hs : S.Pairwise (· < ·)) (hN : N < TOP) (h : ∀ y, K (.int S.length) 0 [y]) : CR.w (callAt P (n + 2) 3 [⟨.int N, 0, false⟩]) K X mk := by
  refine fn_w hf3 rfl ?_
  have dl := dlen hN
  simp only [f_size_of]
  and_intros
  refine check_w (fun _ y => ?_) (fun c => absurd c (fun z => by rcases z with z | z <;> omega))
  and_intros
  rw [Int.natAbs_natCast, bin_eq]
  refine wAsk_of ⟨by omega, by rw [zS_len, List.length_reverse]; omega⟩ ?_
  and_intros
  rw [count_dgs hb hs]
  exact h _
theorem size_bad {m : Int} (hm : Bad m) (h : ∀ y, X 0 (.int m) [y]) : CR.w (callAt P (n + 2) 3 [⟨.int m, 0, false⟩]) K X mk := by
  refine fn_w hf3 rfl ?_
  simp only [f_size_of]
  and_intros
  refine check_w (fun c y => absurd hm c) (fun c y => ?_)
  and_intros
  exact h _
theorem hf4 : P.fns[4]? = some f_first_of := rfl
theorem top_pos : 0 < TOP := Nat.two_pow_pos _
theorem first0_w {N : Nat} (h0 : N = 0) (h : ∀ y, K .non 0 [y]) : CR.w (callAt P (n + 2) 4 [⟨.int N, 0, false⟩]) K X mk := by
  refine fn_w hf4 rfl ?_
  simp only [f_first_of]
  and_intros
  refine check_w (fun _ y => ?_) (fun c => absurd c (fun z => by have := top_pos; rcases z with z | z <;> omega))
  and_intros
  refine wIf_p (fun c => ?_) (fun c => absurd (by omega : (N : Int) = 0) c)
  and_intros
  exact h _
theorem first_w {N l : Nat} {S : List Nat} (hb : Bits N (l :: S)) (hs : (l :: S).Pairwise (· < ·)) (hN : N < TOP) (h : ∀ y, K (.int l) 0 [y]) : CR.w (callAt P (n + 2) 4 [⟨.int N, 0, false⟩]) K X mk := by
  refine fn_w hf4 rfl ?_
  have hn : N ≠ 0 := fun z => by
    subst z
    have := hb l
    simp at this
  simp only [f_first_of]
  and_intros
  refine check_w (fun _ y => ?_) (fun c => absurd c (fun z => by rcases z with z | z <;> omega))
  and_intros
  refine wIf_p (fun c => absurd c (by omega)) (fun c => ?_)
  and_intros
  rw [and_neg hb hs, bits_pow]
  and_intros
  rw [show ((l + 1 : Nat) : Int) - 1 = (l : Int) by omega]
  exact h _
theorem first_bad {m : Int} (hm : Bad m) (h : ∀ y, X 0 (.int m) [y]) : CR.w (callAt P (n + 2) 4 [⟨.int m, 0, false⟩]) K X mk := by
  refine fn_w hf4 rfl ?_
  simp only [f_first_of]
  and_intros
  refine check_w (fun c y => absurd hm c) (fun c y => ?_)
  and_intros
  exact h _
end
end K03
-- PART
namespace K03
open MP PySem
local macro_rules | `(tactic| infer_instance) => `(tactic| simp only [↓wSs_nil, ↓wSs_cons, ↓wS_asg, ↓wS_asgT, ↓wS_par, ↓wS_exp, ↓wS_ifs, ↓wS_ret0, ↓wS_raise, ↓wS_raise0, ↓wS_brk, ↓wS_cnt, ↓wS_retV, ↓wS_ret_glb, ↓wS_ret_cst, ↓wS_ret_prim, ↓wS_ret_not, ↓wS_ret_bop, ↓wS_ret_chn, ↓wS_ret_call, ↓wS_ret_lc, ↓wS_ret_exf, ↓wS_ret_slc, ↓wS_for, ↓wS_try, ↓wA_var, ↓wA_glb, ↓wA_cst, ↓wA_op, ↓wA_cmp, ↓wA_neg, ↓wA_ix, ↓wA_len, ↓wA_toInt, ↓wA_abs, ↓wA_toTup, ↓wA_toLst, ↓wA_isi, ↓wA_bits, ↓wA_fmtB, ↓wA_rev, ↓wA_cnt, ↓wA_sset, ↓wA_lrng, ↓wA_sorted, ↓wA_min, ↓wA_max, ↓wA_tup, ↓wA_lst, ↓wA_not, ↓wA_bop, ↓wB_1, ↓wB_2, ↓wA_chn, ↓wA_chn3, ↓wA_exi, ↓wA_exv, ↓wA_slc, ↓wP_nil, ↓wP_one, ↓wA_call, ↓wA_exf, ↓wAs_nil, ↓wAs_cons, ↓wI_ex, ↓wI_rng1, ↓wI_rng2, ↓wI_rng3, ↓cRg_2, ↓cRg_3, ↓wT_eq, ↓wTs_nil, ↓wTs_cons, ↓cRd_0, ↓cRd_1, ↓cVl_val, ↓cVl_own, ↓cOw_0, ↓cOw_1, ↓cVls_nil, ↓cVls_cons, ↓cSt_val, ↓cSt_own, ↓cSo_eq, ↓cSts_nil, ↓cSts_cons, ↓cAc_val, ↓cTr_bl, ↓cTr_int, ↓cTr_lst, ↓cTr_tup, ↓cTr_scr, ↓cTr_non, ↓cPr_add, ↓cPr_sub, ↓cPr_mul, ↓cPr_mulL, ↓cPr_addL, ↓cPr_addZ, ↓cPr_fdiv, ↓cPr_mod, ↓cPr_pow, ↓cPr_shl, ↓cPr_shr, ↓cPr_neg, ↓cPr_lt, ↓cPr_le, ↓cPr_gt, ↓cPr_ge, ↓cPr_eqI, ↓cPr_neI, ↓cPr_eq, ↓cPr_ne, ↓cPr_tup, ↓cPr_lst, ↓cIx_eq, ↓cIx_eqL, ↓cIx_eqS, ↓cIx_eqZ, ↓cIx_0, ↓cIx_1, ↓cIx_2, ↓cIx_3, ↓cIx_4, ↓cIx_5, ↓cIx_6, ↓cIx_7, ↓cPr_lenL, ↓cPr_lenT, ↓cPr_lenS, ↓cPr_lenZ, ↓cPr_bits, ↓cPr_fmtB, ↓cPr_rev, ↓cPr_cnt, ↓cPr_lrng, ↓cPr_band, ↓cPr_bor, ↓cPr_sset, ↓cPr_toInt, ↓cPr_toIntB, ↓cPr_abs, ↓cPr_toLstL, ↓cPr_toLstT, ↓cPr_toTupL, ↓cPr_toTupT, ↓cPr_min, ↓cPr_max, ↓cPr_sorted, ↓cPr_inI2, ↓cPr_ninI2, ↓cPr_inZ, ↓cPr_ninZ, ↓cSg_1, ↓cPr_inT2, ↓cPr_ninT2, ↓cPr_isiI, ↓cPr_isiB, ↓cPr_isiN, ↓cPr_isiT, ↓cPr_isiL, ↓cPr_isiS, ↓cPr_isN, ↓cPr_isI, ↓cPr_isT, ↓cPr_isL, ↓cPr_inN, ↓cPr_inI, ↓cPr_inT, ↓cPr_inL, ↓cIn_int, ↓cCut_lst, ↓cCut_str, ↓cCm_lt, ↓cCm_le, ↓cCm_gt, ↓cCm_ge, ↓cGl_eq, ↓cLe_nil, ↓cLe_val, ↓cLe_own, ↓cLo_eq, ↓cTg_nm, ↓cTg_tup, ↓cTo_n, ↓cTo_f, ↓cTgs_nil, ↓cTgs_cons, ↓cPa_nil, ↓cPa_cons, ↓cLs_eq, ↓cHd_n, ↓cHd_f, ↓wIf_t, ↓wIf_f, ↓wAsk_true, ↓cAc_own, ↓cFz_eq, ↓fV_nil, ↓fV_cons, ↓cV_nil, ↓cV_cons, ↓cSx_0, ↓cSx_1, ↓wH_app, ↓wH_setix, ↓wH_whl, ↓wL_lc, ↓cIt_tup, ↓cIt_lst, ↓cIt_str, ↓cIt_scr, ↓wI_enu, ↓cIe_lst, ↓cIe_str, ↓cIe_scr, Option.getD_some, Option.getD_none, Bool.or_true, Bool.true_or, Bool.or_false, Bool.false_or, reduceCtorEq, Nat.reduceSub, Int.cast_ofNat_Int, Int.natCast_zero, Int.natCast_one, okD_int, okD_bl, okD_non, okD_nilL, okD_nilT, peq_nilL, peq_nilT, peq_int, peq_str, peq_bl, okD_bls2, peq_bls2, okD_bls3, peq_bls3, okD_str, dneN, Nat.reduceBEq, Nat.reduceAdd, Nat.reduceLeDiff, sizeMax, Nat.zero_add, Int.reduceToNat, Int.reducePow, Int.reduceSub, Int.reduceAdd, Int.reduceMul, Int.reduceNeg, Int.reduceLT, Int.reduceLE, Int.reduceEq, beq_true, beq_false, wIf_n, wIf_t, wIf_f, wAsk_true, back, List.set_cons_zero, List.set_cons_succ, List.getElem?_cons_zero, List.getElem?_cons_succ, List.nil_append, List.cons_append, List.map_cons, List.map_nil, List.replicate_zero, List.replicate_succ, List.length_cons, List.length_nil, noLent, List.all_nil, List.all_cons, finals_some, finals_none, finals_0, Bool.and_true, Bool.true_and, Bool.not_true, Bool.not_false, decide_true, decide_false, Bool.false_eq_true, ite_true, ite_false, if_true, if_false, and_self, and_true, true_and, eq_self, clr, unwipe, wipeE, ↓K03.gl0, K03.oS, zS_len, zS_cps, zS_add, zS_one])
local macro_rules | `(tactic| left) => `(tactic| first | (with_reducible assumption) | (with_reducible refine mulOk_of ⟨?_, ?_⟩ ⟨?_, ?_⟩ <;> omega) | (with_reducible refine divOk_of ?_ ?_ <;> omega) | omega | (with_reducible refine rngOk3_of ?_; omega) | (with_reducible refine ⟨rngOk_of ?_, rngOk_of ?_⟩ <;> omega) | (simp only [List.length_cons, List.length_nil, sizeMax]; omega))
local macro_rules | `(tactic| and_intros) => `(tactic| repeat (first | infer_instance | ((with_reducible refine wAsk_of ?_ ?_); (focus left)) | with_reducible refine wS_setix ?_ | with_reducible refine wS_app ?_))

def iv (S : List Nat) : List PV := S.map fun k : Nat => PV.int k
theorem iv_at {S : List Nat} {k c : Nat} (h : S[k]? = some c) : (iv S)[k]? = some (.int c) := by unfold iv; rw [List.getElem?_map, h]; rfl
theorem iv_len {S : List Nat} : (iv S).length = S.length := List.length_map ..
section
variable {n : Nat} {K : PV → Nat → List (PV × Nat) → Prop} {X : Nat → PV → List (PV × Nat) → Prop} {mk : Mark (PProd.mk K X)}
theorem hf9 : P.fns[9]? = some f__law_mask_told := rfl
theorem hf10 : P.fns[10]? = some f__law_asked := rfl
theorem hf11 : P.fns[11]? = some f__law_is_told := rfl
theorem hf12 : P.fns[12]? = some f__law_is_refused := rfl
theorem hf13 : P.fns[13]? = some f__law_is_shown := rfl
theorem hf14 : P.fns[14]? = some f__law_mask := rfl
theorem hf15 : P.fns[15]? = some f__law_ones := rfl
theorem told_w {ps : List Int} {R : PV} {d : Nat} {l : Bool} (hR : Sl ps R d l) (h : ∀ M : Nat, ps.filter badP = [] → Bits M (ps.map Int.toNat) → K (.lst [.int 0, .int M]) 1 [(R, 0)]) (h2 : ∀ w r, ps.filter badP = w :: r → K (.lst [.int 1, .int w]) 1 [(R, 0)]) :
    CR.w (callAt P (n + 2) 9 [⟨R, d, l⟩]) K X mk := by
  refine fn_w hf9 rfl ?_
  simp only [f__law_mask_told]
  rcases hR with ⟨rfl, rfl, rfl⟩ | ⟨rfl, rfl, rfl⟩
  all_goals
    and_intros
    refine mask_of_w (by first | exact .inl ⟨rfl, rfl, rfl⟩ | exact .inr ⟨rfl, rfl, rfl⟩) (fun M a b => ?_) (fun w r a => ?_)
    · and_intros
      exact h M a b
    · and_intros
      exact h2 w r a
theorem asked0_w {N : Nat} {S : List Nat} (hb : Bits N S) (hs : S.Pairwise (· < ·)) (hN : N < TOP) (h : ∀ y z, K (.lst [.int 0, .tup (iv S)]) 1 [y, z]) : CR.w (callAt P (n + 3) 10 [⟨.int 0, 0, false⟩, ⟨.int N, 0, false⟩]) K X mk := by
  refine fn_w hf10 rfl ?_
  simp only [f__law_asked]
  and_intros
  refine positions_w hb hs hN fun y => ?_
  and_intros
  exact h _ _
theorem asked1_w {N : Nat} {S : List Nat} (hb : Bits N S) (hs : S.Pairwise (· < ·)) (hN : N < TOP) (h : ∀ y z, K (.lst [.int 0, .int S.length]) 1 [y, z]) : CR.w (callAt P (n + 3) 10 [⟨.int 1, 0, false⟩, ⟨.int N, 0, false⟩]) K X mk := by
  refine fn_w hf10 rfl ?_
  simp only [f__law_asked]
  and_intros
  refine size_w hb hs hN fun y => ?_
  and_intros
  exact h _ _
theorem asked2_w {N l : Nat} {S : List Nat} (hb : Bits N (l :: S)) (hs : (l :: S).Pairwise (· < ·)) (hN : N < TOP) (h : ∀ y z, K (.lst [.int 0, .int l]) 1 [y, z]) : CR.w (callAt P (n + 3) 10 [⟨.int 2, 0, false⟩, ⟨.int N, 0, false⟩]) K X mk := by
  refine fn_w hf10 rfl ?_
  simp only [f__law_asked]
  and_intros
  refine first_w hb hs hN fun y => ?_
  and_intros
  exact h _ _
theorem asked2n_w {N : Nat} (h0 : N = 0) (h : ∀ y z, K (.lst [.int 0, .non]) 1 [y, z]) : CR.w (callAt P (n + 3) 10 [⟨.int 2, 0, false⟩, ⟨.int N, 0, false⟩]) K X mk := by
  refine fn_w hf10 rfl ?_
  simp only [f__law_asked]
  and_intros
  refine first0_w h0 fun y => ?_
  and_intros
  exact h _ _
theorem asked_bad {i m : Int} {k : Nat} (hi : i = k) (hk : k < 3) (hm : Bad m) (h : ∀ y z, K (.lst [.int 1, .int m]) 1 [y, z]) : CR.w (callAt P (n + 3) 10 [⟨.int i, 0, false⟩, ⟨.int m, 0, false⟩]) K X mk := by
  refine fn_w hf10 rfl ?_
  simp only [f__law_asked]
  and_intros
  refine wIf_p (fun c => ?_) (fun c => ?_)
  · and_intros
    refine positions_bad hm fun y => ?_
    and_intros
    exact h _ _
  and_intros
  refine wIf_p (fun c => ?_) (fun c => ?_)
  · and_intros
    refine size_bad hm fun y => ?_
    and_intros
    exact h _ _
  · and_intros
    refine first_bad hm fun y => ?_
    and_intros
    exact h _ _
theorem is_told_w {a b : Int} {l : Bool} (h : ∀ y z, K (.bl true) 0 [(.lst [.int a, .int b], 1), y, z]) : CR.w (callAt P (n + 1) 11 [⟨.lst [.int a, .int b], 1, l⟩, ⟨.int a, 0, false⟩, ⟨.int b, 0, false⟩]) K X mk := by
  refine fn_w hf11 rfl ?_
  simp only [f__law_is_told]
  and_intros
  exact h _ _
theorem is_refused_w {m : Int} (hm : Bad m) (h : ∀ y, K (.bl true) 0 [y]) : CR.w (callAt P (n + 4) 12 [⟨.int m, 0, false⟩]) K X mk := by
  refine fn_w hf12 rfl ?_
  simp only [f__law_is_refused]
  simp only [↓wSs_nil, ↓wSs_cons, ↓wS_asg, ↓wS_asgT, ↓wS_par, ↓wS_exp, ↓wS_ifs, ↓wS_ret0, ↓wS_raise, ↓wS_raise0, ↓wS_brk, ↓wS_cnt, ↓wS_retV, ↓wS_ret_glb, ↓wS_ret_cst, ↓wS_ret_prim, ↓wS_ret_not, ↓wS_ret_bop, ↓wS_ret_chn, ↓wS_ret_call, ↓wS_ret_lc, ↓wS_ret_exf, ↓wS_ret_slc, ↓wS_for, ↓wS_try, ↓wA_var, ↓wA_glb, ↓wA_cst, ↓wA_op, ↓wA_cmp, ↓wA_neg, ↓wA_ix, ↓wA_len, ↓wA_toInt, ↓wA_abs, ↓wA_toTup, ↓wA_toLst, ↓wA_isi, ↓wA_bits, ↓wA_fmtB, ↓wA_rev, ↓wA_cnt, ↓wA_sset, ↓wA_lrng, ↓wA_sorted, ↓wA_min, ↓wA_max, ↓wA_tup, ↓wA_lst, ↓wA_not, ↓wA_bop, ↓wB_1, ↓wB_2, ↓wA_chn, ↓wA_chn3, ↓wA_exi, ↓wA_exv, ↓wA_slc, ↓wP_nil, ↓wP_one, ↓wA_call, ↓wA_exf, ↓wAs_nil, ↓wAs_cons, ↓wI_ex, ↓wI_rng1, ↓wI_rng2, ↓wI_rng3, ↓cRg_2, ↓cRg_3, ↓wT_eq, ↓wTs_nil, ↓wTs_cons, ↓cRd_0, ↓cRd_1, ↓cVl_val, ↓cVl_own, ↓cOw_0, ↓cOw_1, ↓cVls_nil, ↓cVls_cons, ↓cSt_val, ↓cSt_own, ↓cSo_eq, ↓cSts_nil, ↓cSts_cons, ↓cAc_val, ↓cTr_bl, ↓cTr_int, ↓cTr_lst, ↓cTr_tup, ↓cTr_scr, ↓cTr_non, ↓cPr_add, ↓cPr_sub, ↓cPr_mul, ↓cPr_mulL, ↓cPr_addL, ↓cPr_addZ, ↓cPr_fdiv, ↓cPr_mod, ↓cPr_pow, ↓cPr_shl, ↓cPr_shr, ↓cPr_neg, ↓cPr_lt, ↓cPr_le, ↓cPr_gt, ↓cPr_ge, ↓cPr_eqI, ↓cPr_neI, ↓cPr_eq, ↓cPr_ne, ↓cPr_tup, ↓cPr_lst, ↓cIx_eq, ↓cIx_eqL, ↓cIx_eqS, ↓cIx_eqZ, ↓cIx_0, ↓cIx_1, ↓cIx_2, ↓cIx_3, ↓cIx_4, ↓cIx_5, ↓cIx_6, ↓cIx_7, ↓cPr_lenL, ↓cPr_lenT, ↓cPr_lenS, ↓cPr_lenZ, ↓cPr_bits, ↓cPr_fmtB, ↓cPr_rev, ↓cPr_cnt, ↓cPr_lrng, ↓cPr_band, ↓cPr_bor, ↓cPr_sset, ↓cPr_toInt, ↓cPr_toIntB, ↓cPr_abs, ↓cPr_toLstL, ↓cPr_toLstT, ↓cPr_toTupL, ↓cPr_toTupT, ↓cPr_min, ↓cPr_max, ↓cPr_sorted, ↓cPr_inI2, ↓cPr_ninI2, ↓cPr_inZ, ↓cPr_ninZ, ↓cSg_1, ↓cPr_inT2, ↓cPr_ninT2, ↓cPr_isiI, ↓cPr_isiB, ↓cPr_isiN, ↓cPr_isiT, ↓cPr_isiL, ↓cPr_isiS, ↓cPr_isN, ↓cPr_isI, ↓cPr_isT, ↓cPr_isL, ↓cPr_inN, ↓cPr_inI, ↓cPr_inT, ↓cPr_inL, ↓cIn_int, ↓cCut_lst, ↓cCut_str, ↓cCm_lt, ↓cCm_le, ↓cCm_gt, ↓cCm_ge, ↓cGl_eq, ↓cLe_nil, ↓cLe_val, ↓cLe_own, ↓cLo_eq, ↓cTg_nm, ↓cTg_tup, ↓cTo_n, ↓cTo_f, ↓cTgs_nil, ↓cTgs_cons, ↓cPa_nil, ↓cPa_cons, ↓cLs_eq, ↓cHd_n, ↓cHd_f, ↓wIf_t, ↓wIf_f, ↓wAsk_true, ↓cAc_own, ↓cFz_eq, ↓fV_nil, ↓cV_nil, ↓cSx_0, ↓cSx_1, ↓wH_app, ↓wH_setix, ↓wH_whl, ↓wL_lc, ↓cIt_tup, ↓cIt_lst, ↓cIt_str, ↓cIt_scr, ↓wI_enu, ↓cIe_lst, ↓cIe_str, ↓cIe_scr, Option.getD_some, Option.getD_none, Bool.or_true, Bool.true_or, Bool.or_false, Bool.false_or, reduceCtorEq, Nat.reduceSub, Int.cast_ofNat_Int, Int.natCast_zero, Int.natCast_one, okD_int, okD_bl, okD_non, okD_nilL, okD_nilT, peq_nilL, peq_nilT, peq_int, peq_str, peq_bl, okD_bls2, peq_bls2, okD_bls3, peq_bls3, okD_str, dneN, Nat.reduceBEq, Nat.reduceAdd, Nat.reduceLeDiff, sizeMax, Nat.zero_add, Int.reduceToNat, Int.reducePow, Int.reduceSub, Int.reduceAdd, Int.reduceMul, Int.reduceNeg, Int.reduceLT, Int.reduceLE, Int.reduceEq, beq_true, beq_false, wIf_n, wIf_t, wIf_f, wAsk_true, back, List.set_cons_zero, List.set_cons_succ, List.getElem?_cons_zero, List.getElem?_cons_succ, List.nil_append, List.cons_append, List.map_cons, List.map_nil, List.replicate_zero, List.replicate_succ, List.length_cons, List.length_nil, noLent, List.all_nil, List.all_cons, finals_some, finals_none, finals_0, Bool.and_true, Bool.true_and, Bool.not_true, Bool.not_false, decide_true, decide_false, Bool.false_eq_true, ite_true, ite_false, if_true, if_false, and_self, and_true, true_and, eq_self, clr, unwipe, wipeE]
  refine ⟨3, rfl, rfl, ?_⟩
  rw [show rangeL 0 3 = (List.range 3).map fun k : Nat => PV.int k from rfl]
  refine fV_inv (fun done rest e => ∃ (ks : List Nat) (o : Option MP.Slot), (rest = ks.map (fun k : Nat => PV.int k) ∧ (∀ k ∈ ks, k < 3) ∧ (o = none ∨ ∃ a, o = some ⟨a, 0, false⟩)) ∧ e = [some ⟨.int m, 0, false⟩, o]) ⟨List.range 3, none, ⟨rfl, fun k hk => List.mem_range.mp hk, .inl rfl⟩, rfl⟩ ?_ ?_
  · rintro done y ys e ⟨ks, o, ⟨hr, hks, ho⟩, rfl⟩
    cases ks with
    | nil => simp at hr
    | cons k ks =>
      obtain ⟨rfl, rfl⟩ : y = .int k ∧ ys = ks.map (fun k : Nat => PV.int k) := by simpa using hr
      have hk := hks k (by simp)
      rcases ho with rfl | ⟨a, rfl⟩
      all_goals
        and_intros
        refine asked_bad rfl hk hm fun y z => ?_
        and_intros
        refine is_told_w fun y z => ?_
        and_intros
        exact ⟨ks, _, ⟨rfl, fun k hk => hks k (List.mem_cons_of_mem _ hk), .inr ⟨_, rfl⟩⟩, rfl⟩
  · rintro done e ⟨ks, o, ⟨hr, hks, ho⟩, rfl⟩
    and_intros
    exact h _
end
end K03
-- PART
namespace K03
open MP PySem
local macro_rules | `(tactic| infer_instance) => `(tactic| simp only [↓wSs_nil, ↓wSs_cons, ↓wS_asg, ↓wS_asgT, ↓wS_par, ↓wS_exp, ↓wS_ifs, ↓wS_ret0, ↓wS_raise, ↓wS_raise0, ↓wS_brk, ↓wS_cnt, ↓wS_retV, ↓wS_ret_glb, ↓wS_ret_cst, ↓wS_ret_prim, ↓wS_ret_not, ↓wS_ret_bop, ↓wS_ret_chn, ↓wS_ret_call, ↓wS_ret_lc, ↓wS_ret_exf, ↓wS_ret_slc, ↓wS_for, ↓wS_try, ↓wA_var, ↓wA_glb, ↓wA_cst, ↓wA_op, ↓wA_cmp, ↓wA_neg, ↓wA_ix, ↓wA_len, ↓wA_toInt, ↓wA_abs, ↓wA_toTup, ↓wA_toLst, ↓wA_isi, ↓wA_bits, ↓wA_fmtB, ↓wA_rev, ↓wA_cnt, ↓wA_sset, ↓wA_lrng, ↓wA_sorted, ↓wA_min, ↓wA_max, ↓wA_tup, ↓wA_lst, ↓wA_not, ↓wA_bop, ↓wB_1, ↓wB_2, ↓wA_chn, ↓wA_chn3, ↓wA_exi, ↓wA_exv, ↓wA_slc, ↓wP_nil, ↓wP_one, ↓wA_call, ↓wA_exf, ↓wAs_nil, ↓wAs_cons, ↓wI_ex, ↓wI_rng1, ↓wI_rng2, ↓wI_rng3, ↓cRg_2, ↓cRg_3, ↓wT_eq, ↓wTs_nil, ↓wTs_cons, ↓cRd_0, ↓cRd_1, ↓cVl_val, ↓cVl_own, ↓cOw_0, ↓cOw_1, ↓cVls_nil, ↓cVls_cons, ↓cSt_val, ↓cSt_own, ↓cSo_eq, ↓cSts_nil, ↓cSts_cons, ↓cAc_val, ↓cTr_bl, ↓cTr_int, ↓cTr_lst, ↓cTr_tup, ↓cTr_scr, ↓cTr_non, ↓cPr_add, ↓cPr_sub, ↓cPr_mul, ↓cPr_mulL, ↓cPr_addL, ↓cPr_addZ, ↓cPr_fdiv, ↓cPr_mod, ↓cPr_pow, ↓cPr_shl, ↓cPr_shr, ↓cPr_neg, ↓cPr_lt, ↓cPr_le, ↓cPr_gt, ↓cPr_ge, ↓cPr_eqI, ↓cPr_neI, ↓cPr_eq, ↓cPr_ne, ↓cPr_tup, ↓cPr_lst, ↓cIx_eq, ↓cIx_eqL, ↓cIx_eqS, ↓cIx_eqZ, ↓cIx_0, ↓cIx_1, ↓cIx_2, ↓cIx_3, ↓cIx_4, ↓cIx_5, ↓cIx_6, ↓cIx_7, ↓cPr_lenL, ↓cPr_lenT, ↓cPr_lenS, ↓cPr_lenZ, ↓cPr_bits, ↓cPr_fmtB, ↓cPr_rev, ↓cPr_cnt, ↓cPr_lrng, ↓cPr_band, ↓cPr_bor, ↓cPr_sset, ↓cPr_toInt, ↓cPr_toIntB, ↓cPr_abs, ↓cPr_toLstL, ↓cPr_toLstT, ↓cPr_toTupL, ↓cPr_toTupT, ↓cPr_min, ↓cPr_max, ↓cPr_sorted, ↓cPr_inI2, ↓cPr_ninI2, ↓cPr_inZ, ↓cPr_ninZ, ↓cSg_1, ↓cPr_inT2, ↓cPr_ninT2, ↓cPr_isiI, ↓cPr_isiB, ↓cPr_isiN, ↓cPr_isiT, ↓cPr_isiL, ↓cPr_isiS, ↓cPr_isN, ↓cPr_isI, ↓cPr_isT, ↓cPr_isL, ↓cPr_inN, ↓cPr_inI, ↓cPr_inT, ↓cPr_inL, ↓cIn_int, ↓cCut_lst, ↓cCut_str, ↓cCm_lt, ↓cCm_le, ↓cCm_gt, ↓cCm_ge, ↓cGl_eq, ↓cLe_nil, ↓cLe_val, ↓cLe_own, ↓cLo_eq, ↓cTg_nm, ↓cTg_tup, ↓cTo_n, ↓cTo_f, ↓cTgs_nil, ↓cTgs_cons, ↓cPa_nil, ↓cPa_cons, ↓cLs_eq, ↓cHd_n, ↓cHd_f, ↓wIf_t, ↓wIf_f, ↓wAsk_true, ↓cAc_own, ↓cFz_eq, ↓fV_nil, ↓fV_cons, ↓cV_nil, ↓cV_cons, ↓cSx_0, ↓cSx_1, ↓wH_app, ↓wH_setix, ↓wH_whl, ↓wL_lc, ↓cIt_tup, ↓cIt_lst, ↓cIt_str, ↓cIt_scr, ↓wI_enu, ↓cIe_lst, ↓cIe_str, ↓cIe_scr, Option.getD_some, Option.getD_none, Bool.or_true, Bool.true_or, Bool.or_false, Bool.false_or, reduceCtorEq, Nat.reduceSub, Int.cast_ofNat_Int, Int.natCast_zero, Int.natCast_one, okD_int, okD_bl, okD_non, okD_nilL, okD_nilT, peq_nilL, peq_nilT, peq_int, peq_str, peq_bl, okD_bls2, peq_bls2, okD_bls3, peq_bls3, okD_str, dneN, Nat.reduceBEq, Nat.reduceAdd, Nat.reduceLeDiff, sizeMax, Nat.zero_add, Int.reduceToNat, Int.reducePow, Int.reduceSub, Int.reduceAdd, Int.reduceMul, Int.reduceNeg, Int.reduceLT, Int.reduceLE, Int.reduceEq, beq_true, beq_false, wIf_n, wIf_t, wIf_f, wAsk_true, back, List.set_cons_zero, List.set_cons_succ, List.getElem?_cons_zero, List.getElem?_cons_succ, List.nil_append, List.cons_append, List.map_cons, List.map_nil, List.replicate_zero, List.replicate_succ, List.length_cons, List.length_nil, noLent, List.all_nil, List.all_cons, finals_some, finals_none, finals_0, Bool.and_true, Bool.true_and, Bool.not_true, Bool.not_false, decide_true, decide_false, Bool.false_eq_true, ite_true, ite_false, if_true, if_false, and_self, and_true, true_and, eq_self, clr, unwipe, wipeE, ↓K03.gl0, K03.oS, zS_len, zS_cps, zS_add, zS_one, K03.iv_len])
local macro_rules | `(tactic| left) => `(tactic| first | (with_reducible assumption) | (with_reducible refine mulOk_of ⟨?_, ?_⟩ ⟨?_, ?_⟩ <;> omega) | (with_reducible refine divOk_of ?_ ?_ <;> omega) | omega | (with_reducible refine rngOk3_of ?_; omega) | (with_reducible refine ⟨rngOk_of ?_, rngOk_of ?_⟩ <;> omega) | (simp only [List.length_cons, List.length_nil, sizeMax]; omega))
local macro_rules | `(tactic| and_intros) => `(tactic| repeat (first | infer_instance | ((with_reducible refine wAsk_of ?_ ?_); (focus left)) | with_reducible refine wS_setix ?_ | with_reducible refine wS_app ?_))

theorem isiT_iv {S : List Nat} {K : PV → Nat → Prop} : cPr (.isi .tup) [.tup (iv S)] K = K (.bl true) 0 := rfl
theorem rg_cons {k n : Nat} (h : k < n) : List.range' k (n - k) = k :: List.range' (k + 1) (n - (k + 1)) := by
  rw [show n - k = (n - (k + 1)) + 1 by omega]
  rfl
theorem rangeL_nat {n : Nat} : rangeL 0 (n : Int) = (List.range' 0 (n - 0)).map fun k : Nat => PV.int k := by
  unfold rangeL
  simp [List.range_eq_range']
theorem rngOk_nat {n : Nat} (h : n ≤ 1000000) : rngOk (n : Int) = true := by
  unfold rngOk
  rw [decide_eq_true (by omega), decide_eq_true (by omega)]
  rfl
section
variable {n : Nat} {K : PV → Nat → List (PV × Nat) → Prop} {X : Nat → PV → List (PV × Nat) → Prop} {mk : Mark (PProd.mk K X)}
theorem is_shown_w {N : Nat} {S : List Nat} {d : Nat} {l : Bool} (hd : d = 0 ∨ d = 1) (hb : Bits N S) (hs : S.Pairwise (· < ·)) (hN : N < TOP) (hl : S.length ≤ 5001) (h : ∀ y, K (.bl true) 0 [y, (.lst (iv S), d)]) : CR.w (callAt P (n + 4) 13 [⟨.int N, 0, false⟩, ⟨.lst (iv S), d, l⟩]) K X mk := by
  rcases hd with rfl | rfl
  · refine fn_w hf13 rfl ?_
    simp only [f__law_is_shown]
    obtain ⟨T, hT⟩ : ∃ T, PV.lst [.int 0, .tup (iv S)] = T := ⟨_, rfl⟩
    refine wSs_mid (fun e => e = [some ⟨.int N, 0, false⟩, some ⟨.lst (iv S), 0, l⟩, some ⟨T, 1, false⟩, none]) ?_ ?_
    · and_intros
      refine asked0_w hb hs hN fun y z => ?_
      rw [hT]
      and_intros
    rintro e rfl
    refine wSs_mid (fun e => e = [some ⟨.int N, 0, false⟩, some ⟨.lst (iv S), 0, l⟩, some ⟨T, 1, false⟩, none]) ?_ ?_
    · subst hT
      and_intros
    rintro e rfl
    with_reducible refine wSs_mid (fun e => ∃ o : Option MP.Slot, (o = none ∨ ∃ z, o = some ⟨z, 0, false⟩) ∧ e = [some ⟨.int N, 0, false⟩, some ⟨.lst (iv S), 0, l⟩, some ⟨T, 1, false⟩, o]) ?_ ?_
    · simp only [↓wSs_nil, ↓wSs_cons, ↓wS_asg, ↓wS_asgT, ↓wS_par, ↓wS_exp, ↓wS_ifs, ↓wS_ret0, ↓wS_raise, ↓wS_raise0, ↓wS_brk, ↓wS_cnt, ↓wS_retV, ↓wS_ret_glb, ↓wS_ret_cst, ↓wS_ret_prim, ↓wS_ret_not, ↓wS_ret_bop, ↓wS_ret_chn, ↓wS_ret_call, ↓wS_ret_lc, ↓wS_ret_exf, ↓wS_ret_slc, ↓wS_for, ↓wS_try, ↓wA_var, ↓wA_glb, ↓wA_cst, ↓wA_op, ↓wA_cmp, ↓wA_neg, ↓wA_ix, ↓wA_len, ↓wA_toInt, ↓wA_abs, ↓wA_toTup, ↓wA_toLst, ↓wA_isi, ↓wA_bits, ↓wA_fmtB, ↓wA_rev, ↓wA_cnt, ↓wA_sset, ↓wA_lrng, ↓wA_sorted, ↓wA_min, ↓wA_max, ↓wA_tup, ↓wA_lst, ↓wA_not, ↓wA_bop, ↓wB_1, ↓wB_2, ↓wA_chn, ↓wA_chn3, ↓wA_exi, ↓wA_exv, ↓wA_slc, ↓wP_nil, ↓wP_one, ↓wA_call, ↓wA_exf, ↓wAs_nil, ↓wAs_cons, ↓wI_ex, ↓wI_rng1, ↓wI_rng2, ↓wI_rng3, ↓cRg_2, ↓cRg_3, ↓wT_eq, ↓wTs_nil, ↓wTs_cons, ↓cRd_0, ↓cRd_1, ↓cVl_val, ↓cVl_own, ↓cOw_0, ↓cOw_1, ↓cVls_nil, ↓cVls_cons, ↓cSt_val, ↓cSt_own, ↓cSo_eq, ↓cSts_nil, ↓cSts_cons, ↓cAc_val, ↓cTr_bl, ↓cTr_int, ↓cTr_lst, ↓cTr_tup, ↓cTr_scr, ↓cTr_non, ↓cPr_add, ↓cPr_sub, ↓cPr_mul, ↓cPr_mulL, ↓cPr_addL, ↓cPr_addZ, ↓cPr_fdiv, ↓cPr_mod, ↓cPr_pow, ↓cPr_shl, ↓cPr_shr, ↓cPr_neg, ↓cPr_lt, ↓cPr_le, ↓cPr_gt, ↓cPr_ge, ↓cPr_eqI, ↓cPr_neI, ↓cPr_eq, ↓cPr_ne, ↓cPr_tup, ↓cPr_lst, ↓cIx_eq, ↓cIx_eqL, ↓cIx_eqS, ↓cIx_eqZ, ↓cIx_0, ↓cIx_1, ↓cIx_2, ↓cIx_3, ↓cIx_4, ↓cIx_5, ↓cIx_6, ↓cIx_7, ↓cPr_lenL, ↓cPr_lenT, ↓cPr_lenS, ↓cPr_lenZ, ↓cPr_bits, ↓cPr_fmtB, ↓cPr_rev, ↓cPr_cnt, ↓cPr_lrng, ↓cPr_band, ↓cPr_bor, ↓cPr_sset, ↓cPr_toInt, ↓cPr_toIntB, ↓cPr_abs, ↓cPr_toLstL, ↓cPr_toLstT, ↓cPr_toTupL, ↓cPr_toTupT, ↓cPr_min, ↓cPr_max, ↓cPr_sorted, ↓cPr_inI2, ↓cPr_ninI2, ↓cPr_inZ, ↓cPr_ninZ, ↓cSg_1, ↓cPr_inT2, ↓cPr_ninT2, ↓cPr_isiI, ↓cPr_isiB, ↓cPr_isiN, ↓cPr_isiT, ↓cPr_isiL, ↓cPr_isiS, ↓cPr_isN, ↓cPr_isI, ↓cPr_isT, ↓cPr_isL, ↓cPr_inN, ↓cPr_inI, ↓cPr_inT, ↓cPr_inL, ↓cIn_int, ↓cCut_lst, ↓cCut_str, ↓cCm_lt, ↓cCm_le, ↓cCm_gt, ↓cCm_ge, ↓cGl_eq, ↓cLe_nil, ↓cLe_val, ↓cLe_own, ↓cLo_eq, ↓cTg_nm, ↓cTg_tup, ↓cTo_n, ↓cTo_f, ↓cTgs_nil, ↓cTgs_cons, ↓cPa_nil, ↓cPa_cons, ↓cLs_eq, ↓cHd_n, ↓cHd_f, ↓wIf_t, ↓wIf_f, ↓wAsk_true, ↓cAc_own, ↓cFz_eq, ↓fV_nil, ↓cV_nil, ↓cSx_0, ↓cSx_1, ↓wH_app, ↓wH_setix, ↓wH_whl, ↓wL_lc, ↓cIt_tup, ↓cIt_lst, ↓cIt_str, ↓cIt_scr, ↓wI_enu, ↓cIe_lst, ↓cIe_str, ↓cIe_scr, Option.getD_some, Option.getD_none, Bool.or_true, Bool.true_or, Bool.or_false, Bool.false_or, reduceCtorEq, Nat.reduceSub, Int.cast_ofNat_Int, Int.natCast_zero, Int.natCast_one, okD_int, okD_bl, okD_non, okD_nilL, okD_nilT, peq_nilL, peq_nilT, peq_int, peq_str, peq_bl, okD_bls2, peq_bls2, okD_bls3, peq_bls3, okD_str, dneN, Nat.reduceBEq, Nat.reduceAdd, Nat.reduceLeDiff, sizeMax, Nat.zero_add, Int.reduceToNat, Int.reducePow, Int.reduceSub, Int.reduceAdd, Int.reduceMul, Int.reduceNeg, Int.reduceLT, Int.reduceLE, Int.reduceEq, beq_true, beq_false, wIf_n, wIf_t, wIf_f, wAsk_true, back, List.set_cons_zero, List.set_cons_succ, List.getElem?_cons_zero, List.getElem?_cons_succ, List.nil_append, List.cons_append, List.map_cons, List.map_nil, List.replicate_zero, List.replicate_succ, List.length_cons, List.length_nil, noLent, List.all_nil, List.all_cons, finals_some, finals_none, finals_0, Bool.and_true, Bool.true_and, Bool.not_true, Bool.not_false, decide_true, decide_false, Bool.false_eq_true, ite_true, ite_false, if_true, if_false, and_self, and_true, true_and, eq_self, clr, unwipe, wipeE, iv_len]
      refine ⟨S.length, rfl, rngOk_nat (by omega), ?_⟩
      rw [rangeL_nat]
      refine fV_inv (fun done rest e => ∃ (k : Nat) (o : Option MP.Slot), (rest = (List.range' k (S.length - k)).map (fun k : Nat => PV.int k) ∧ k ≤ S.length ∧ (o = none ∨ ∃ z, o = some ⟨z, 0, false⟩)) ∧ e = [some ⟨.int N, 0, false⟩, some ⟨.lst (iv S), 0, l⟩, some ⟨T, 1, false⟩, o]) ⟨0, none, ⟨rfl, Nat.zero_le _, .inl rfl⟩, rfl⟩ ?_ ?_
      · subst hT
        rintro done y ys e ⟨k, o, ⟨hr, hk, ho⟩, rfl⟩
        rcases Nat.lt_or_ge k S.length with lt | ge
        · rw [rg_cons lt] at hr
          obtain ⟨rfl, rfl⟩ : y = .int k ∧ ys = (List.range' (k + 1) (S.length - (k + 1))).map (fun k : Nat => PV.int k) := by simpa using hr
          obtain ⟨c, hc⟩ : ∃ c, S[k]? = some c := ⟨_, List.getElem?_eq_getElem lt⟩
          rcases ho with rfl | ⟨z, rfl⟩
          all_goals
            and_intros
            refine cIx_go k rfl (iv_at hc) ?_
            and_intros
            refine cIx_go k rfl (iv_at hc) ?_
            and_intros
            refine is_told_w fun y z => ?_
            and_intros
            exact ⟨k + 1, _, ⟨rfl, lt, .inr ⟨_, rfl⟩⟩, rfl⟩
        · rw [show S.length - k = 0 by omega] at hr
          simp at hr
      · rintro done e ⟨k, o, ⟨hr, hk, ho⟩, rfl⟩
        and_intros
        exact ⟨_, ho, rfl⟩
    rintro e ⟨o, ho, rfl⟩
    refine wSs_mid (fun e => e = [some ⟨.int N, 0, false⟩, some ⟨.lst (iv S), 0, l⟩, some ⟨T, 1, false⟩, o]) ?_ ?_
    · and_intros
      refine asked1_w hb hs hN fun y z => ?_
      and_intros
      refine is_told_w fun y z => ?_
      and_intros
    rintro e rfl
    cases S with
    | nil =>
      have h0 : N = 0 := hb.same Bits.nil fun i => Iff.rfl
      and_intros
      refine asked2n_w h0 fun y z => ?_
      and_intros
      exact h _
    | cons l0 S =>
      and_intros
      refine asked2_w hb hs hN fun y z => ?_
      and_intros
      refine wIf_p (fun c => ?_) (fun c => ?_)
      · simp at c
        omega
      and_intros
      refine cIx_go 0 rfl (iv_at (c := l0) rfl) ?_
      and_intros
      refine is_told_w fun y z => ?_
      and_intros
      exact h _
  · refine fn_w hf13 rfl ?_
    simp only [f__law_is_shown]
    obtain ⟨T, hT⟩ : ∃ T, PV.lst [.int 0, .tup (iv S)] = T := ⟨_, rfl⟩
    refine wSs_mid (fun e => e = [some ⟨.int N, 0, false⟩, some ⟨.lst (iv S), 1, l⟩, some ⟨T, 1, false⟩, none]) ?_ ?_
    · and_intros
      refine asked0_w hb hs hN fun y z => ?_
      rw [hT]
      and_intros
    rintro e rfl
    refine wSs_mid (fun e => e = [some ⟨.int N, 0, false⟩, some ⟨.lst (iv S), 1, l⟩, some ⟨T, 1, false⟩, none]) ?_ ?_
    · subst hT
      and_intros
    rintro e rfl
    with_reducible refine wSs_mid (fun e => ∃ o : Option MP.Slot, (o = none ∨ ∃ z, o = some ⟨z, 0, false⟩) ∧ e = [some ⟨.int N, 0, false⟩, some ⟨.lst (iv S), 1, l⟩, some ⟨T, 1, false⟩, o]) ?_ ?_
    · simp only [↓wSs_nil, ↓wSs_cons, ↓wS_asg, ↓wS_asgT, ↓wS_par, ↓wS_exp, ↓wS_ifs, ↓wS_ret0, ↓wS_raise, ↓wS_raise0, ↓wS_brk, ↓wS_cnt, ↓wS_retV, ↓wS_ret_glb, ↓wS_ret_cst, ↓wS_ret_prim, ↓wS_ret_not, ↓wS_ret_bop, ↓wS_ret_chn, ↓wS_ret_call, ↓wS_ret_lc, ↓wS_ret_exf, ↓wS_ret_slc, ↓wS_for, ↓wS_try, ↓wA_var, ↓wA_glb, ↓wA_cst, ↓wA_op, ↓wA_cmp, ↓wA_neg, ↓wA_ix, ↓wA_len, ↓wA_toInt, ↓wA_abs, ↓wA_toTup, ↓wA_toLst, ↓wA_isi, ↓wA_bits, ↓wA_fmtB, ↓wA_rev, ↓wA_cnt, ↓wA_sset, ↓wA_lrng, ↓wA_sorted, ↓wA_min, ↓wA_max, ↓wA_tup, ↓wA_lst, ↓wA_not, ↓wA_bop, ↓wB_1, ↓wB_2, ↓wA_chn, ↓wA_chn3, ↓wA_exi, ↓wA_exv, ↓wA_slc, ↓wP_nil, ↓wP_one, ↓wA_call, ↓wA_exf, ↓wAs_nil, ↓wAs_cons, ↓wI_ex, ↓wI_rng1, ↓wI_rng2, ↓wI_rng3, ↓cRg_2, ↓cRg_3, ↓wT_eq, ↓wTs_nil, ↓wTs_cons, ↓cRd_0, ↓cRd_1, ↓cVl_val, ↓cVl_own, ↓cOw_0, ↓cOw_1, ↓cVls_nil, ↓cVls_cons, ↓cSt_val, ↓cSt_own, ↓cSo_eq, ↓cSts_nil, ↓cSts_cons, ↓cAc_val, ↓cTr_bl, ↓cTr_int, ↓cTr_lst, ↓cTr_tup, ↓cTr_scr, ↓cTr_non, ↓cPr_add, ↓cPr_sub, ↓cPr_mul, ↓cPr_mulL, ↓cPr_addL, ↓cPr_addZ, ↓cPr_fdiv, ↓cPr_mod, ↓cPr_pow, ↓cPr_shl, ↓cPr_shr, ↓cPr_neg, ↓cPr_lt, ↓cPr_le, ↓cPr_gt, ↓cPr_ge, ↓cPr_eqI, ↓cPr_neI, ↓cPr_eq, ↓cPr_ne, ↓cPr_tup, ↓cPr_lst, ↓cIx_eq, ↓cIx_eqL, ↓cIx_eqS, ↓cIx_eqZ, ↓cIx_0, ↓cIx_1, ↓cIx_2, ↓cIx_3, ↓cIx_4, ↓cIx_5, ↓cIx_6, ↓cIx_7, ↓cPr_lenL, ↓cPr_lenT, ↓cPr_lenS, ↓cPr_lenZ, ↓cPr_bits, ↓cPr_fmtB, ↓cPr_rev, ↓cPr_cnt, ↓cPr_lrng, ↓cPr_band, ↓cPr_bor, ↓cPr_sset, ↓cPr_toInt, ↓cPr_toIntB, ↓cPr_abs, ↓cPr_toLstL, ↓cPr_toLstT, ↓cPr_toTupL, ↓cPr_toTupT, ↓cPr_min, ↓cPr_max, ↓cPr_sorted, ↓cPr_inI2, ↓cPr_ninI2, ↓cPr_inZ, ↓cPr_ninZ, ↓cSg_1, ↓cPr_inT2, ↓cPr_ninT2, ↓cPr_isiI, ↓cPr_isiB, ↓cPr_isiN, ↓cPr_isiT, ↓cPr_isiL, ↓cPr_isiS, ↓cPr_isN, ↓cPr_isI, ↓cPr_isT, ↓cPr_isL, ↓cPr_inN, ↓cPr_inI, ↓cPr_inT, ↓cPr_inL, ↓cIn_int, ↓cCut_lst, ↓cCut_str, ↓cCm_lt, ↓cCm_le, ↓cCm_gt, ↓cCm_ge, ↓cGl_eq, ↓cLe_nil, ↓cLe_val, ↓cLe_own, ↓cLo_eq, ↓cTg_nm, ↓cTg_tup, ↓cTo_n, ↓cTo_f, ↓cTgs_nil, ↓cTgs_cons, ↓cPa_nil, ↓cPa_cons, ↓cLs_eq, ↓cHd_n, ↓cHd_f, ↓wIf_t, ↓wIf_f, ↓wAsk_true, ↓cAc_own, ↓cFz_eq, ↓fV_nil, ↓cV_nil, ↓cSx_0, ↓cSx_1, ↓wH_app, ↓wH_setix, ↓wH_whl, ↓wL_lc, ↓cIt_tup, ↓cIt_lst, ↓cIt_str, ↓cIt_scr, ↓wI_enu, ↓cIe_lst, ↓cIe_str, ↓cIe_scr, Option.getD_some, Option.getD_none, Bool.or_true, Bool.true_or, Bool.or_false, Bool.false_or, reduceCtorEq, Nat.reduceSub, Int.cast_ofNat_Int, Int.natCast_zero, Int.natCast_one, okD_int, okD_bl, okD_non, okD_nilL, okD_nilT, peq_nilL, peq_nilT, peq_int, peq_str, peq_bl, okD_bls2, peq_bls2, okD_bls3, peq_bls3, okD_str, dneN, Nat.reduceBEq, Nat.reduceAdd, Nat.reduceLeDiff, sizeMax, Nat.zero_add, Int.reduceToNat, Int.reducePow, Int.reduceSub, Int.reduceAdd, Int.reduceMul, Int.reduceNeg, Int.reduceLT, Int.reduceLE, Int.reduceEq, beq_true, beq_false, wIf_n, wIf_t, wIf_f, wAsk_true, back, List.set_cons_zero, List.set_cons_succ, List.getElem?_cons_zero, List.getElem?_cons_succ, List.nil_append, List.cons_append, List.map_cons, List.map_nil, List.replicate_zero, List.replicate_succ, List.length_cons, List.length_nil, noLent, List.all_nil, List.all_cons, finals_some, finals_none, finals_0, Bool.and_true, Bool.true_and, Bool.not_true, Bool.not_false, decide_true, decide_false, Bool.false_eq_true, ite_true, ite_false, if_true, if_false, and_self, and_true, true_and, eq_self, clr, unwipe, wipeE, iv_len]
      refine ⟨S.length, rfl, rngOk_nat (by omega), ?_⟩
      rw [rangeL_nat]
      refine fV_inv (fun done rest e => ∃ (k : Nat) (o : Option MP.Slot), (rest = (List.range' k (S.length - k)).map (fun k : Nat => PV.int k) ∧ k ≤ S.length ∧ (o = none ∨ ∃ z, o = some ⟨z, 0, false⟩)) ∧ e = [some ⟨.int N, 0, false⟩, some ⟨.lst (iv S), 1, l⟩, some ⟨T, 1, false⟩, o]) ⟨0, none, ⟨rfl, Nat.zero_le _, .inl rfl⟩, rfl⟩ ?_ ?_
      · subst hT
        rintro done y ys e ⟨k, o, ⟨hr, hk, ho⟩, rfl⟩
        rcases Nat.lt_or_ge k S.length with lt | ge
        · rw [rg_cons lt] at hr
          obtain ⟨rfl, rfl⟩ : y = .int k ∧ ys = (List.range' (k + 1) (S.length - (k + 1))).map (fun k : Nat => PV.int k) := by simpa using hr
          obtain ⟨c, hc⟩ : ∃ c, S[k]? = some c := ⟨_, List.getElem?_eq_getElem lt⟩
          rcases ho with rfl | ⟨z, rfl⟩
          all_goals
            and_intros
            refine cIx_go k rfl (iv_at hc) ?_
            and_intros
            refine cIx_go k rfl (iv_at hc) ?_
            and_intros
            refine is_told_w fun y z => ?_
            and_intros
            exact ⟨k + 1, _, ⟨rfl, lt, .inr ⟨_, rfl⟩⟩, rfl⟩
        · rw [show S.length - k = 0 by omega] at hr
          simp at hr
      · rintro done e ⟨k, o, ⟨hr, hk, ho⟩, rfl⟩
        and_intros
        exact ⟨_, ho, rfl⟩
    rintro e ⟨o, ho, rfl⟩
    refine wSs_mid (fun e => e = [some ⟨.int N, 0, false⟩, some ⟨.lst (iv S), 1, l⟩, some ⟨T, 1, false⟩, o]) ?_ ?_
    · and_intros
      refine asked1_w hb hs hN fun y z => ?_
      and_intros
      refine is_told_w fun y z => ?_
      and_intros
    rintro e rfl
    cases S with
    | nil =>
      have h0 : N = 0 := hb.same Bits.nil fun i => Iff.rfl
      and_intros
      refine asked2n_w h0 fun y z => ?_
      and_intros
      exact h _
    | cons l0 S =>
      and_intros
      refine asked2_w hb hs hN fun y z => ?_
      and_intros
      refine wIf_p (fun c => ?_) (fun c => ?_)
      · simp at c
        omega
      and_intros
      refine cIx_go 0 rfl (iv_at (c := l0) rfl) ?_
      and_intros
      refine is_told_w fun y z => ?_
      and_intros
      exact h _
theorem law_mask_w {S : List Nat} (hs : S.Pairwise (· < ·)) (hl : ∀ i ∈ S, i < 5001) (h : ∀ M : Nat, Bits M S → K (.int M) 0 [(.lst (iv S), 0)]) : CR.w (callAt P (n + 1) 14 [⟨.lst (iv S), 1, true⟩]) K X mk := by
  refine fn_w hf14 rfl ?_
  simp only [f__law_mask]
  simp only [↓wSs_nil, ↓wSs_cons, ↓wS_asg, ↓wS_asgT, ↓wS_par, ↓wS_exp, ↓wS_ifs, ↓wS_ret0, ↓wS_raise, ↓wS_raise0, ↓wS_brk, ↓wS_cnt, ↓wS_retV, ↓wS_ret_glb, ↓wS_ret_cst, ↓wS_ret_prim, ↓wS_ret_not, ↓wS_ret_bop, ↓wS_ret_chn, ↓wS_ret_call, ↓wS_ret_lc, ↓wS_ret_exf, ↓wS_ret_slc, ↓wS_for, ↓wS_try, ↓wA_var, ↓wA_glb, ↓wA_cst, ↓wA_op, ↓wA_cmp, ↓wA_neg, ↓wA_ix, ↓wA_len, ↓wA_toInt, ↓wA_abs, ↓wA_toTup, ↓wA_toLst, ↓wA_isi, ↓wA_bits, ↓wA_fmtB, ↓wA_rev, ↓wA_cnt, ↓wA_sset, ↓wA_lrng, ↓wA_sorted, ↓wA_min, ↓wA_max, ↓wA_tup, ↓wA_lst, ↓wA_not, ↓wA_bop, ↓wB_1, ↓wB_2, ↓wA_chn, ↓wA_chn3, ↓wA_exi, ↓wA_exv, ↓wA_slc, ↓wP_nil, ↓wP_one, ↓wA_call, ↓wA_exf, ↓wAs_nil, ↓wAs_cons, ↓wI_ex, ↓wI_rng1, ↓wI_rng2, ↓wI_rng3, ↓cRg_2, ↓cRg_3, ↓wT_eq, ↓wTs_nil, ↓wTs_cons, ↓cRd_0, ↓cRd_1, ↓cVl_val, ↓cVl_own, ↓cOw_0, ↓cOw_1, ↓cVls_nil, ↓cVls_cons, ↓cSt_val, ↓cSt_own, ↓cSo_eq, ↓cSts_nil, ↓cSts_cons, ↓cAc_val, ↓cTr_bl, ↓cTr_int, ↓cTr_lst, ↓cTr_tup, ↓cTr_scr, ↓cTr_non, ↓cPr_add, ↓cPr_sub, ↓cPr_mul, ↓cPr_mulL, ↓cPr_addL, ↓cPr_addZ, ↓cPr_fdiv, ↓cPr_mod, ↓cPr_pow, ↓cPr_shl, ↓cPr_shr, ↓cPr_neg, ↓cPr_lt, ↓cPr_le, ↓cPr_gt, ↓cPr_ge, ↓cPr_eqI, ↓cPr_neI, ↓cPr_eq, ↓cPr_ne, ↓cPr_tup, ↓cPr_lst, ↓cIx_eq, ↓cIx_eqL, ↓cIx_eqS, ↓cIx_eqZ, ↓cIx_0, ↓cIx_1, ↓cIx_2, ↓cIx_3, ↓cIx_4, ↓cIx_5, ↓cIx_6, ↓cIx_7, ↓cPr_lenL, ↓cPr_lenT, ↓cPr_lenS, ↓cPr_lenZ, ↓cPr_bits, ↓cPr_fmtB, ↓cPr_rev, ↓cPr_cnt, ↓cPr_lrng, ↓cPr_band, ↓cPr_bor, ↓cPr_sset, ↓cPr_toInt, ↓cPr_toIntB, ↓cPr_abs, ↓cPr_toLstL, ↓cPr_toLstT, ↓cPr_toTupL, ↓cPr_toTupT, ↓cPr_min, ↓cPr_max, ↓cPr_sorted, ↓cPr_inI2, ↓cPr_ninI2, ↓cPr_inZ, ↓cPr_ninZ, ↓cSg_1, ↓cPr_inT2, ↓cPr_ninT2, ↓cPr_isiI, ↓cPr_isiB, ↓cPr_isiN, ↓cPr_isiT, ↓cPr_isiL, ↓cPr_isiS, ↓cPr_isN, ↓cPr_isI, ↓cPr_isT, ↓cPr_isL, ↓cPr_inN, ↓cPr_inI, ↓cPr_inT, ↓cPr_inL, ↓cIn_int, ↓cCut_lst, ↓cCut_str, ↓cCm_lt, ↓cCm_le, ↓cCm_gt, ↓cCm_ge, ↓cGl_eq, ↓cLe_nil, ↓cLe_val, ↓cLe_own, ↓cLo_eq, ↓cTg_nm, ↓cTg_tup, ↓cTo_n, ↓cTo_f, ↓cTgs_nil, ↓cTgs_cons, ↓cPa_nil, ↓cPa_cons, ↓cLs_eq, ↓cHd_n, ↓cHd_f, ↓wIf_t, ↓wIf_f, ↓wAsk_true, ↓cAc_own, ↓cFz_eq, ↓fV_nil, ↓cV_nil, ↓cSx_0, ↓cSx_1, ↓wH_app, ↓wH_setix, ↓wH_whl, ↓wL_lc, ↓cIt_tup, ↓cIt_lst, ↓cIt_str, ↓cIt_scr, ↓wI_enu, ↓cIe_lst, ↓cIe_str, ↓cIe_scr, Option.getD_some, Option.getD_none, Bool.or_true, Bool.true_or, Bool.or_false, Bool.false_or, reduceCtorEq, Nat.reduceSub, Int.cast_ofNat_Int, Int.natCast_zero, Int.natCast_one, okD_int, okD_bl, okD_non, okD_nilL, okD_nilT, peq_nilL, peq_nilT, peq_int, peq_str, peq_bl, okD_bls2, peq_bls2, okD_bls3, peq_bls3, okD_str, dneN, Nat.reduceBEq, Nat.reduceAdd, Nat.reduceLeDiff, sizeMax, Nat.zero_add, Int.reduceToNat, Int.reducePow, Int.reduceSub, Int.reduceAdd, Int.reduceMul, Int.reduceNeg, Int.reduceLT, Int.reduceLE, Int.reduceEq, beq_true, beq_false, wIf_n, wIf_t, wIf_f, wAsk_true, back, List.set_cons_zero, List.set_cons_succ, List.getElem?_cons_zero, List.getElem?_cons_succ, List.nil_append, List.cons_append, List.map_cons, List.map_nil, List.replicate_zero, List.replicate_succ, List.length_cons, List.length_nil, noLent, List.all_nil, List.all_cons, finals_some, finals_none, finals_0, Bool.and_true, Bool.true_and, Bool.not_true, Bool.not_false, decide_true, decide_false, Bool.false_eq_true, ite_true, ite_false, if_true, if_false, and_self, and_true, true_and, eq_self, clr, unwipe, wipeE]
  refine fV_inv (fun done rest e => ∃ (dn rs : List Nat) (M : Nat) (o : Option MP.Slot), (rest = iv rs ∧ S = dn ++ rs ∧ Bits M dn ∧ (o = none ∨ ∃ z, o = some ⟨z, 0, false⟩)) ∧ e = [some ⟨.lst (iv S), 0, true⟩, some ⟨.int M, 0, false⟩, o]) ⟨[], S, 0, none, ⟨rfl, rfl, Bits.nil, .inl rfl⟩, rfl⟩ ?_ ?_
  · rintro done y ys e ⟨dn, rs, M, o, ⟨hr, hd, hM, ho⟩, rfl⟩
    cases rs with
    | nil => simp [iv] at hr
    | cons p rs =>
      obtain ⟨rfl, rfl⟩ : y = .int p ∧ ys = iv rs := by
        unfold iv at hr ⊢
        simpa using hr
      have hlt : ∀ i ∈ dn, i < p := fun i hi => by
        rw [hd] at hs
        exact (List.pairwise_append.mp hs).2.2 i hi p (by simp)
      have hp := hl p (by rw [hd]; simp)
      rcases ho with rfl | ⟨z, rfl⟩
      all_goals
        and_intros
        have e2 : (M : Int) + 1 * (2 : Int) ^ (p : Int).toNat = ((M + 2 ^ p : Nat) : Int) := by
          rw [Int.one_mul, Int.toNat_natCast, Int.natCast_add, Int.natCast_pow]
          rfl
        exact ⟨dn ++ [p], rs, M + 2 ^ p, some ⟨.int p, 0, false⟩, ⟨rfl, by rw [hd]; simp, hM.add hlt, .inr ⟨_, rfl⟩⟩, by rw [← e2]⟩
  · rintro done e ⟨dn, rs, M, o, ⟨hr, hd, hM, ho⟩, rfl⟩
    cases rs with
    | cons => simp [iv] at hr
    | nil =>
      rw [List.append_nil] at hd
      subst hd
      and_intros
      exact h M hM
/-- the set bits below 60, shifted -/
def onesN (N : Nat) : List Nat := (List.range 60).filter fun i => N.testBit i
theorem onesN_bits {N : Nat} (h : N < 2 ^ 60) : Bits N (onesN N) := fun i => by
  unfold onesN
  rw [Bool.eq_iff_iff, decide_eq_true_eq, List.mem_filter, List.mem_range]
  refine ⟨fun z => ⟨?_, z⟩, fun z => z.2⟩
  apply Classical.byContradiction
  intro hn
  have := Nat.testBit_lt_two_pow (Nat.lt_of_lt_of_le h (Nat.pow_le_pow_right (by decide) (Nat.le_of_not_lt hn)))
  rw [this] at z
  cases z
theorem onesN_lt {N : Nat} : (onesN N).Pairwise (· < ·) := List.pairwise_lt_range.filter _
theorem onesN_len {N : Nat} : (onesN N).length ≤ 60 := Nat.le_trans (List.length_filter_le _ _) (by rw [List.length_range]; exact Nat.le_refl _)
theorem onesN_60 {N i : Nat} (h : i ∈ onesN N) : i < 60 := List.mem_range.mp (List.mem_filter.mp h).1
theorem ones_w {N s : Nat} (hN : N < 2 ^ 60) (h : ∀ y z, K (.lst (iv ((onesN N).map fun k => s + k))) 1 [y, z]) : CR.w (callAt P (n + 1) 15 [⟨.int N, 0, false⟩, ⟨.int s, 0, false⟩]) K X mk := by
  refine fn_w hf15 rfl ?_
  simp only [f__law_ones]
  simp only [↓wSs_nil, ↓wSs_cons, ↓wS_asg, ↓wS_asgT, ↓wS_par, ↓wS_exp, ↓wS_ifs, ↓wS_ret0, ↓wS_raise, ↓wS_raise0, ↓wS_brk, ↓wS_cnt, ↓wS_retV, ↓wS_ret_glb, ↓wS_ret_cst, ↓wS_ret_prim, ↓wS_ret_not, ↓wS_ret_bop, ↓wS_ret_chn, ↓wS_ret_call, ↓wS_ret_lc, ↓wS_ret_exf, ↓wS_ret_slc, ↓wS_for, ↓wS_try, ↓wA_var, ↓wA_glb, ↓wA_cst, ↓wA_op, ↓wA_cmp, ↓wA_neg, ↓wA_ix, ↓wA_len, ↓wA_toInt, ↓wA_abs, ↓wA_toTup, ↓wA_toLst, ↓wA_isi, ↓wA_bits, ↓wA_fmtB, ↓wA_rev, ↓wA_cnt, ↓wA_sset, ↓wA_lrng, ↓wA_sorted, ↓wA_min, ↓wA_max, ↓wA_tup, ↓wA_lst, ↓wA_not, ↓wA_bop, ↓wB_1, ↓wB_2, ↓wA_chn, ↓wA_chn3, ↓wA_exi, ↓wA_exv, ↓wA_slc, ↓wP_nil, ↓wP_one, ↓wA_call, ↓wA_exf, ↓wAs_nil, ↓wAs_cons, ↓wI_ex, ↓wI_rng1, ↓wI_rng2, ↓wI_rng3, ↓cRg_2, ↓cRg_3, ↓wT_eq, ↓wTs_nil, ↓wTs_cons, ↓cRd_0, ↓cRd_1, ↓cVl_val, ↓cVl_own, ↓cOw_0, ↓cOw_1, ↓cVls_nil, ↓cVls_cons, ↓cSt_val, ↓cSt_own, ↓cSo_eq, ↓cSts_nil, ↓cSts_cons, ↓cAc_val, ↓cTr_bl, ↓cTr_int, ↓cTr_lst, ↓cTr_tup, ↓cTr_scr, ↓cTr_non, ↓cPr_add, ↓cPr_sub, ↓cPr_mul, ↓cPr_mulL, ↓cPr_addL, ↓cPr_addZ, ↓cPr_fdiv, ↓cPr_mod, ↓cPr_pow, ↓cPr_shl, ↓cPr_shr, ↓cPr_neg, ↓cPr_lt, ↓cPr_le, ↓cPr_gt, ↓cPr_ge, ↓cPr_eqI, ↓cPr_neI, ↓cPr_eq, ↓cPr_ne, ↓cPr_tup, ↓cPr_lst, ↓cIx_eq, ↓cIx_eqL, ↓cIx_eqS, ↓cIx_eqZ, ↓cIx_0, ↓cIx_1, ↓cIx_2, ↓cIx_3, ↓cIx_4, ↓cIx_5, ↓cIx_6, ↓cIx_7, ↓cPr_lenL, ↓cPr_lenT, ↓cPr_lenS, ↓cPr_lenZ, ↓cPr_bits, ↓cPr_fmtB, ↓cPr_rev, ↓cPr_cnt, ↓cPr_lrng, ↓cPr_band, ↓cPr_bor, ↓cPr_sset, ↓cPr_toInt, ↓cPr_toIntB, ↓cPr_abs, ↓cPr_toLstL, ↓cPr_toLstT, ↓cPr_toTupL, ↓cPr_toTupT, ↓cPr_min, ↓cPr_max, ↓cPr_sorted, ↓cPr_inI2, ↓cPr_ninI2, ↓cPr_inZ, ↓cPr_ninZ, ↓cSg_1, ↓cPr_inT2, ↓cPr_ninT2, ↓cPr_isiI, ↓cPr_isiB, ↓cPr_isiN, ↓cPr_isiT, ↓cPr_isiL, ↓cPr_isiS, ↓cPr_isN, ↓cPr_isI, ↓cPr_isT, ↓cPr_isL, ↓cPr_inN, ↓cPr_inI, ↓cPr_inT, ↓cPr_inL, ↓cIn_int, ↓cCut_lst, ↓cCut_str, ↓cCm_lt, ↓cCm_le, ↓cCm_gt, ↓cCm_ge, ↓cGl_eq, ↓cLe_nil, ↓cLe_val, ↓cLe_own, ↓cLo_eq, ↓cTg_nm, ↓cTg_tup, ↓cTo_n, ↓cTo_f, ↓cTgs_nil, ↓cTgs_cons, ↓cPa_nil, ↓cPa_cons, ↓cLs_eq, ↓cHd_n, ↓cHd_f, ↓wIf_t, ↓wIf_f, ↓wAsk_true, ↓cAc_own, ↓cFz_eq, ↓fV_nil, ↓cV_nil, ↓cSx_0, ↓cSx_1, ↓wH_app, ↓wH_setix, ↓wH_whl, ↓wL_lc, ↓cIt_tup, ↓cIt_lst, ↓cIt_str, ↓cIt_scr, ↓wI_enu, ↓cIe_lst, ↓cIe_str, ↓cIe_scr, Option.getD_some, Option.getD_none, Bool.or_true, Bool.true_or, Bool.or_false, Bool.false_or, reduceCtorEq, Nat.reduceSub, Int.cast_ofNat_Int, Int.natCast_zero, Int.natCast_one, okD_int, okD_bl, okD_non, okD_nilL, okD_nilT, peq_nilL, peq_nilT, peq_int, peq_str, peq_bl, okD_bls2, peq_bls2, okD_bls3, peq_bls3, okD_str, dneN, Nat.reduceBEq, Nat.reduceAdd, Nat.reduceLeDiff, sizeMax, Nat.zero_add, Int.reduceToNat, Int.reducePow, Int.reduceSub, Int.reduceAdd, Int.reduceMul, Int.reduceNeg, Int.reduceLT, Int.reduceLE, Int.reduceEq, beq_true, beq_false, wIf_n, wIf_t, wIf_f, wAsk_true, back, List.set_cons_zero, List.set_cons_succ, List.getElem?_cons_zero, List.getElem?_cons_succ, List.nil_append, List.cons_append, List.map_cons, List.map_nil, List.replicate_zero, List.replicate_succ, List.length_cons, List.length_nil, noLent, List.all_nil, List.all_cons, finals_some, finals_none, finals_0, Bool.and_true, Bool.true_and, Bool.not_true, Bool.not_false, decide_true, decide_false, Bool.false_eq_true, ite_true, ite_false, if_true, if_false, and_self, and_true, true_and, eq_self, clr, unwipe, wipeE]
  refine ⟨60, rfl, rfl, ?_⟩
  rw [show rangeL 0 60 = (List.range' 0 (60 - 0)).map fun k : Nat => PV.int k from rangeL_nat (n := 60)]
  refine fV_inv (fun done rest e => ∃ (k : Nat) (o : Option MP.Slot), (rest = (List.range' k (60 - k)).map (fun k : Nat => PV.int k) ∧ k ≤ 60 ∧ (o = none ∨ ∃ z, o = some ⟨z, 0, false⟩)) ∧ e = [some ⟨.int (N / 2 ^ k : Nat), 0, false⟩, some ⟨.int s, 0, false⟩, some ⟨.lst (iv (((List.range k).filter fun i => N.testBit i).map fun k => s + k)), 1, false⟩, o]) ⟨0, none, ⟨rfl, Nat.zero_le _, .inl rfl⟩, by simp [iv]⟩ ?_ ?_
  · rintro done y ys e ⟨k, o, ⟨hr, hk, ho⟩, rfl⟩
    rcases Nat.lt_or_ge k 60 with lt | ge
    · rw [rg_cons lt] at hr
      obtain ⟨rfl, rfl⟩ : y = .int k ∧ ys = (List.range' (k + 1) (60 - (k + 1))).map (fun k : Nat => PV.int k) := by simpa using hr
      have tb : N.testBit k = decide (N / 2 ^ k % 2 = 1) := Nat.testBit_eq_decide_div_mod_eq
      have hdiv : N / 2 ^ (k + 1) = N / 2 ^ k / 2 := by rw [Nat.pow_succ, Nat.div_div_eq_div_mul]
      have acl : (iv (((List.range k).filter fun i => N.testBit i).map fun k => s + k)).length ≤ k := by
        rw [iv_len, List.length_map]
        exact Nat.le_trans (List.length_filter_le _ _) (by rw [List.length_range]; exact Nat.le_refl _)
      rw [iv_len] at acl
      have e1 : (List.range (k + 1)).filter (fun i => N.testBit i) = (List.range k).filter (fun i => N.testBit i) ++ if N.testBit k then [k] else [] := by
        rw [List.range_succ, List.filter_append]
        cases hq : N.testBit k <;> simp [hq]
      generalize N / 2 ^ k = q at tb hdiv
      rcases ho with rfl | ⟨z, rfl⟩
      all_goals
        and_intros
        refine wIf_p (fun c => ?_) (fun c => ?_)
        · have c1 : q % 2 = 1 := by omega
          have hq : (q : Int) / 2 = ((q / 2 : Nat) : Int) := by omega
          rw [tb, decide_eq_true c1] at e1
          and_intros
          refine ⟨k + 1, some ⟨.int k, 0, false⟩, ⟨rfl, lt, .inr ⟨_, rfl⟩⟩, ?_⟩
          rw [e1, hdiv, hq]
          simp [iv]
        · have c1 : ¬ q % 2 = 1 := by omega
          have hq : (q : Int) / 2 = ((q / 2 : Nat) : Int) := by omega
          rw [tb, decide_eq_false c1] at e1
          and_intros
          refine ⟨k + 1, some ⟨.int k, 0, false⟩, ⟨rfl, lt, .inr ⟨_, rfl⟩⟩, ?_⟩
          rw [e1, hdiv, hq]
          simp [iv]
    · rw [show 60 - k = 0 by omega] at hr
      simp at hr
  · rintro done e ⟨k, o, ⟨hr, hk, ho⟩, rfl⟩
    rcases Nat.lt_or_ge k 60 with lt | ge
    · rw [rg_cons lt] at hr
      simp at hr
    · obtain rfl : k = 60 := by omega
      and_intros
      exact h _ _
theorem menu_go {ns : List Int} {r : Int} {K : PV → Prop} {mk : Mark K} (h0 : 0 ≤ r) (h1 : r < ns.length) (h : ∀ z ∈ ns, K (.int z)) : cIx (ns.map PV.int) r K mk := by
  refine cIx_of h0 (by rw [List.length_map]; exact h1) fun v hv => ?_
  rw [List.getElem?_map] at hv
  cases hx : ns[r.toNat]? with
  | none => rw [hx] at hv; cases hv
  | some x =>
    rw [hx] at hv
    obtain rfl : PV.int x = v := by simpa using hv
    exact h x (List.mem_of_getElem? hx)
theorem hf8 : P.fns[8]? = some f__law_positions := rfl
def OF (o : Option MP.Slot) : Prop := o = none ∨ ∃ a, o = some ⟨a, 0, false⟩
theorem positionsL_w {ns : List Int} {many rare : Int} {l : Bool} (hm : 0 ≤ many ∧ many < 61) (hr : 1 ≤ rare ∧ rare ≤ 30) (h : ∀ ps : List Int, ps.length ≤ 61 → ∀ y z, K (.lst (ps.map PV.int)) 1 [(.scr ns, 0), y, z]) :
    CR.w (callAt P (n + 2) 8 [⟨.scr ns, 0, l⟩, ⟨.int many, 0, false⟩, ⟨.int rare, 0, false⟩]) K X mk := by
  refine fn_w hf8 rfl ?_
  obtain ⟨m1, m2⟩ := hm
  obtain ⟨r1, r2⟩ := hr
  simp only [f__law_positions]
  simp only [↓wSs_nil, ↓wSs_cons, ↓wS_asg, ↓wS_asgT, ↓wS_par, ↓wS_exp, ↓wS_ifs, ↓wS_ret0, ↓wS_raise, ↓wS_raise0, ↓wS_brk, ↓wS_cnt, ↓wS_retV, ↓wS_ret_glb, ↓wS_ret_cst, ↓wS_ret_prim, ↓wS_ret_not, ↓wS_ret_bop, ↓wS_ret_chn, ↓wS_ret_call, ↓wS_ret_lc, ↓wS_ret_exf, ↓wS_ret_slc, ↓wS_for, ↓wS_try, ↓wA_var, ↓wA_glb, ↓wA_cst, ↓wA_op, ↓wA_cmp, ↓wA_neg, ↓wA_ix, ↓wA_len, ↓wA_toInt, ↓wA_abs, ↓wA_toTup, ↓wA_toLst, ↓wA_isi, ↓wA_bits, ↓wA_fmtB, ↓wA_rev, ↓wA_cnt, ↓wA_sset, ↓wA_lrng, ↓wA_sorted, ↓wA_min, ↓wA_max, ↓wA_tup, ↓wA_lst, ↓wA_not, ↓wA_bop, ↓wB_1, ↓wB_2, ↓wA_chn, ↓wA_chn3, ↓wA_exi, ↓wA_exv, ↓wA_slc, ↓wP_nil, ↓wP_one, ↓wA_call, ↓wA_exf, ↓wAs_nil, ↓wAs_cons, ↓wI_ex, ↓wI_rng1, ↓wI_rng2, ↓wI_rng3, ↓cRg_2, ↓cRg_3, ↓wT_eq, ↓wTs_nil, ↓wTs_cons, ↓cRd_0, ↓cRd_1, ↓cVl_val, ↓cVl_own, ↓cOw_0, ↓cOw_1, ↓cVls_nil, ↓cVls_cons, ↓cSt_val, ↓cSt_own, ↓cSo_eq, ↓cSts_nil, ↓cSts_cons, ↓cAc_val, ↓cTr_bl, ↓cTr_int, ↓cTr_lst, ↓cTr_tup, ↓cTr_scr, ↓cTr_non, ↓cPr_add, ↓cPr_sub, ↓cPr_mul, ↓cPr_mulL, ↓cPr_addL, ↓cPr_addZ, ↓cPr_fdiv, ↓cPr_mod, ↓cPr_pow, ↓cPr_shl, ↓cPr_shr, ↓cPr_neg, ↓cPr_lt, ↓cPr_le, ↓cPr_gt, ↓cPr_ge, ↓cPr_eqI, ↓cPr_neI, ↓cPr_eq, ↓cPr_ne, ↓cPr_tup, ↓cPr_lst, ↓cIx_eq, ↓cIx_eqL, ↓cIx_eqS, ↓cIx_eqZ, ↓cIx_0, ↓cIx_1, ↓cIx_2, ↓cIx_3, ↓cIx_4, ↓cIx_5, ↓cIx_6, ↓cIx_7, ↓cPr_lenL, ↓cPr_lenT, ↓cPr_lenS, ↓cPr_lenZ, ↓cPr_bits, ↓cPr_fmtB, ↓cPr_rev, ↓cPr_cnt, ↓cPr_lrng, ↓cPr_band, ↓cPr_bor, ↓cPr_sset, ↓cPr_toInt, ↓cPr_toIntB, ↓cPr_abs, ↓cPr_toLstL, ↓cPr_toLstT, ↓cPr_toTupL, ↓cPr_toTupT, ↓cPr_min, ↓cPr_max, ↓cPr_sorted, ↓cPr_inI2, ↓cPr_ninI2, ↓cPr_inZ, ↓cPr_ninZ, ↓cSg_1, ↓cPr_inT2, ↓cPr_ninT2, ↓cPr_isiI, ↓cPr_isiB, ↓cPr_isiN, ↓cPr_isiT, ↓cPr_isiL, ↓cPr_isiS, ↓cPr_isN, ↓cPr_isI, ↓cPr_isT, ↓cPr_isL, ↓cPr_inN, ↓cPr_inI, ↓cPr_inT, ↓cPr_inL, ↓cIn_int, ↓cCut_lst, ↓cCut_str, ↓cCm_lt, ↓cCm_le, ↓cCm_gt, ↓cCm_ge, ↓cGl_eq, ↓cLe_nil, ↓cLe_val, ↓cLe_own, ↓cLo_eq, ↓cTg_nm, ↓cTg_tup, ↓cTo_n, ↓cTo_f, ↓cTgs_nil, ↓cTgs_cons, ↓cPa_nil, ↓cPa_cons, ↓cLs_eq, ↓cHd_n, ↓cHd_f, ↓wIf_t, ↓wIf_f, ↓wAsk_true, ↓cAc_own, ↓cFz_eq, ↓fV_nil, ↓cV_nil, ↓cSx_0, ↓cSx_1, ↓wH_app, ↓wH_setix, ↓wH_whl, ↓wL_lc, ↓cIt_tup, ↓cIt_lst, ↓cIt_str, ↓cIt_scr, ↓wI_enu, ↓cIe_lst, ↓cIe_str, ↓cIe_scr, Option.getD_some, Option.getD_none, Bool.or_true, Bool.true_or, Bool.or_false, Bool.false_or, reduceCtorEq, Nat.reduceSub, Int.cast_ofNat_Int, Int.natCast_zero, Int.natCast_one, okD_int, okD_bl, okD_non, okD_nilL, okD_nilT, peq_nilL, peq_nilT, peq_int, peq_str, peq_bl, okD_bls2, peq_bls2, okD_bls3, peq_bls3, okD_str, dneN, Nat.reduceBEq, Nat.reduceAdd, Nat.reduceLeDiff, sizeMax, Nat.zero_add, Int.reduceToNat, Int.reducePow, Int.reduceSub, Int.reduceAdd, Int.reduceMul, Int.reduceNeg, Int.reduceLT, Int.reduceLE, Int.reduceEq, beq_true, beq_false, wIf_n, wIf_t, wIf_f, wAsk_true, back, List.set_cons_zero, List.set_cons_succ, List.getElem?_cons_zero, List.getElem?_cons_succ, List.nil_append, List.cons_append, List.map_cons, List.map_nil, List.replicate_zero, List.replicate_succ, List.length_cons, List.length_nil, noLent, List.all_nil, List.all_cons, finals_some, finals_none, finals_0, Bool.and_true, Bool.true_and, Bool.not_true, Bool.not_false, decide_true, decide_false, Bool.false_eq_true, ite_true, ite_false, if_true, if_false, and_self, and_true, true_and, eq_self, clr, unwipe, wipeE]
  refine ⟨many, rfl, by unfold rngOk; rw [decide_eq_true (by omega), decide_eq_true (by omega)]; rfl, ?_⟩
  refine fV_inv (fun done rest e => ∃ (ks : List Nat) (ps : List Int) (o1 o2 o3 o4 o5 : Option MP.Slot), (rest = ks.map (fun k : Nat => PV.int k) ∧ (∀ k ∈ ks, k < 61) ∧ ps.length + ks.length ≤ 61 ∧ OF o5 ∧ (o1 = none ∧ o2 = none ∧ o3 = none ∧ o4 = none ∨ ∃ a b c d, o1 = some ⟨a, 0, false⟩ ∧ o2 = some ⟨b, 1, false⟩ ∧ o3 = some ⟨c, 0, false⟩ ∧ o4 = some ⟨d, 0, false⟩)) ∧ e = [some ⟨.scr ns, 0, l⟩, some ⟨.int many, 0, false⟩, some ⟨.int rare, 0, false⟩, some ⟨.lst (ps.map PV.int), 1, false⟩, o1, o2, o3, o4, o5]) ⟨List.range many.toNat, [], none, none, none, none, none, ⟨?_, fun k hk => ?_, ?_, .inl rfl, .inl ⟨rfl, rfl, rfl, rfl⟩⟩, rfl⟩ ?_ ?_
  · unfold rangeL
    simp
  · have := List.mem_range.mp hk
    omega
  · simp
    omega
  · rintro done y ys e ⟨ks, ps, o1, o2, o3, o4, o5, ⟨hr, hk, hl, h5, ho⟩, rfl⟩
    cases ks with
    | nil => simp at hr
    | cons k ks =>
      obtain ⟨rfl, rfl⟩ : y = .int k ∧ ys = ks.map (fun k : Nat => PV.int k) := by simpa using hr
      have k61 := hk k (by simp)
      simp only [List.length_cons] at hl
      have fin : ∀ (p : Int) (a b c : PV) (o5 : Option MP.Slot), OF o5 → ∃ (ks' : List Nat) (ps' : List Int) (o1 o2 o3 o4 o5' : Option MP.Slot), (ks.map (fun k : Nat => PV.int k) = ks'.map (fun k : Nat => PV.int k) ∧ (∀ k ∈ ks', k < 61) ∧ ps'.length + ks'.length ≤ 61 ∧ OF o5' ∧ (o1 = none ∧ o2 = none ∧ o3 = none ∧ o4 = none ∨ ∃ a b c d, o1 = some ⟨a, 0, false⟩ ∧ o2 = some ⟨b, 1, false⟩ ∧ o3 = some ⟨c, 0, false⟩ ∧ o4 = some ⟨d, 0, false⟩)) ∧
          [some ⟨.scr ns, 0, l⟩, some ⟨.int many, 0, false⟩, some ⟨.int rare, 0, false⟩, some ⟨.lst (ps.map PV.int ++ [.int p]), 1, false⟩, some ⟨a, 0, false⟩, some ⟨b, 1, false⟩, some ⟨c, 0, false⟩, some ⟨.int p, 0, false⟩, o5] = [some ⟨.scr ns, 0, l⟩, some ⟨.int many, 0, false⟩, some ⟨.int rare, 0, false⟩, some ⟨.lst (ps'.map PV.int), 1, false⟩, o1, o2, o3, o4, o5'] := fun p a b c o5 h5 =>
        ⟨ks, ps ++ [p], _, _, _, _, o5, ⟨rfl, fun k hk' => hk k (List.mem_cons_of_mem _ hk'), by rw [List.length_append, List.length_singleton]; omega, h5, .inr ⟨_, _, _, _, rfl, rfl, rfl, rfl⟩⟩, by rw [List.map_append]; rfl⟩
      rcases ho with ⟨rfl, rfl, rfl, rfl⟩ | ⟨a, b, c, d, rfl, rfl, rfl, rfl⟩
      all_goals
        simp only [↓cTg_nm, List.getElem?_cons_succ, List.getElem?_cons_zero, ↓cTo_n, ↓cTo_f, List.set_cons_succ, List.set_cons_zero]
        refine wSs_mid (fun e => ∃ (q0 q1 : Int) (o3 o4 : Option MP.Slot), (Pool q0 q1 ∧ OF o3 ∧ OF o4) ∧ e = [some ⟨.scr ns, 0, l⟩, some ⟨.int many, 0, false⟩, some ⟨.int rare, 0, false⟩, some ⟨.lst (ps.map PV.int), 1, false⟩, some ⟨.int k, 0, false⟩, some ⟨.lst [.int q0, .int q1], 1, false⟩, o3, o4, o5]) ?_ ?_
        · and_intros
          refine pool_w hpo ⟨by omega, by omega⟩ fun q0 q1 hp => ?_
          and_intros
          first
            | exact ⟨_, _, _, _, ⟨hp, .inl rfl, .inl rfl⟩, rfl⟩
            | exact ⟨_, _, _, _, ⟨hp, .inr ⟨_, rfl⟩, .inr ⟨_, rfl⟩⟩, rfl⟩
        rintro e ⟨q0, q1, o3, o4, ⟨hp, h3, h4⟩, rfl⟩
        refine wSs_mid (fun e => ∃ (q0 q1 : Int) (b : Bool), Pool q0 q1 ∧ e = [some ⟨.scr ns, 0, l⟩, some ⟨.int many, 0, false⟩, some ⟨.int rare, 0, false⟩, some ⟨.lst (ps.map PV.int), 1, false⟩, some ⟨.int k, 0, false⟩, some ⟨.lst [.int q0, .int q1], 1, false⟩, some ⟨.bl b, 0, false⟩, o4, o5]) ?_ ?_
        · rcases h3 with rfl | ⟨z3, rfl⟩
          all_goals
            and_intros
            refine draw_w hdr hp ⟨by omega, by omega⟩ fun r q0 q1 r1 r2 hp => ?_
            and_intros
            exact ⟨_, _, _, hp, rfl⟩
        clear hp
        rintro e ⟨q0, q1, bb, hp, rfl⟩
        refine wSs_mid (fun e => ∃ (q0 q1 p : Int), Pool q0 q1 ∧ e = [some ⟨.scr ns, 0, l⟩, some ⟨.int many, 0, false⟩, some ⟨.int rare, 0, false⟩, some ⟨.lst (ps.map PV.int), 1, false⟩, some ⟨.int k, 0, false⟩, some ⟨.lst [.int q0, .int q1], 1, false⟩, some ⟨.bl bb, 0, false⟩, some ⟨.int p, 0, false⟩, o5]) ?_ ?_
        · rcases h4 with rfl | ⟨z4, rfl⟩
          all_goals
            and_intros
            refine draw_w hdr hp ⟨by omega, by omega⟩ fun r q0 q1 r1 r2 hp => ?_
            and_intros
            refine menu_go (ns := [13, 200, 5001]) r1 r2 fun z hz => ?_
            have hz2 : 0 < z ∧ z < 2 ^ 250 := by
              simp only [List.mem_cons, List.not_mem_nil, or_false] at hz
              omega
            and_intros
            refine draw_w hdr hp hz2 fun r q0 q1 r1 r2 hp => ?_
            and_intros
            exact ⟨_, _, _, hp, rfl⟩
        clear hp h3 h4
        rintro e ⟨q0, q1, p, hp, rfl⟩
        refine wSs_mid (fun e => ∃ (q0 q1 p : Int), Pool q0 q1 ∧ e = [some ⟨.scr ns, 0, l⟩, some ⟨.int many, 0, false⟩, some ⟨.int rare, 0, false⟩, some ⟨.lst (ps.map PV.int), 1, false⟩, some ⟨.int k, 0, false⟩, some ⟨.lst [.int q0, .int q1], 1, false⟩, some ⟨.bl bb, 0, false⟩, some ⟨.int p, 0, false⟩, o5]) ?_ ?_
        · and_intros
          refine draw_w hdr hp ⟨by omega, by omega⟩ fun r q0 q1 r1 r2 hp => ?_
          and_intros
          refine wIf_p (fun c => ?_) (fun c => ?_)
          · and_intros
            refine draw_w hdr hp ⟨by omega, by omega⟩ fun r q0 q1 r1 r2 hp => ?_
            and_intros
            refine menu_go (ns := [0, 1, 29, 30, 31, 62, 63, 64, 65, 127, 128, 4999, 5000]) r1 r2 fun z hz => ?_
            and_intros
            exact ⟨_, _, _, hp, rfl⟩
          · and_intros
            exact ⟨_, _, _, hp, rfl⟩
        clear hp p
        rintro e ⟨q0, q1, p, hp, rfl⟩
        refine wSs_mid (fun e => ∃ (q0 q1 p : Int) (o5 : Option MP.Slot), OF o5 ∧ e = [some ⟨.scr ns, 0, l⟩, some ⟨.int many, 0, false⟩, some ⟨.int rare, 0, false⟩, some ⟨.lst (ps.map PV.int), 1, false⟩, some ⟨.int k, 0, false⟩, some ⟨.lst [.int q0, .int q1], 1, false⟩, some ⟨.bl bb, 0, false⟩, some ⟨.int p, 0, false⟩, o5]) ?_ ?_
        · rcases h5 with rfl | ⟨z5, rfl⟩
          all_goals
            and_intros
            refine wIf_of (fun c => ?_) (fun c => ?_)
            · and_intros
              refine draw_w hdr hp ⟨by omega, by omega⟩ fun r q0 q1 r1 r2 hp => ?_
              and_intros
              refine menu_go (ns := [1, 60, 1000000]) r1 r2 fun z hz => ?_
              have hz2 : 0 < z ∧ z < 2 ^ 250 := by
                simp only [List.mem_cons, List.not_mem_nil, or_false] at hz
                omega
              and_intros
              refine draw_w hdr hp hz2 fun r q0 q1 r1 r2 hp => ?_
              and_intros
              refine draw_w hdr hp ⟨by omega, by omega⟩ fun u q0 q1 u1 u2 hp => ?_
              and_intros
              refine menu_go (ns := [-1 - r, 5001 + r]) u1 u2 fun z hz => ?_
              and_intros
              exact ⟨_, _, _, _, .inr ⟨_, rfl⟩, rfl⟩
            · and_intros
              first
                | exact ⟨_, _, _, _, .inl rfl, rfl⟩
                | exact ⟨_, _, _, _, .inr ⟨_, rfl⟩, rfl⟩
        clear hp p h5
        rintro e ⟨q0, q1, p, o5, h5, rfl⟩
        and_intros
        refine wAsk_of (by rw [List.length_map]; omega) ?_
        and_intros
        exact fin p _ _ _ o5 h5
  · rintro done e ⟨ks, ps, o1, o2, o3, o4, o5, ⟨hr, hk, hl, h5, ho⟩, rfl⟩
    and_intros
    exact h ps (by omega) _ _
end
end K03
-- PART
namespace K03
open MP PySem
theorem cPr_nin_iv {k : Nat} {L : List Nat} {K : PV → Nat → Prop} : cPr (.cmp .nin) [.int k, .lst (iv L)] K = K (.bl (!decide (k ∈ L))) 0 := by
  have e : iv L = (L.map fun k : Nat => (k : Int)).map PV.int := by unfold iv; rw [List.map_map]; rfl
  rw [e, cPr_ninI2]
  congr 2
  congr 1
  refine decide_eq_decide.mpr ?_
  rw [List.mem_map]
  exact ⟨fun ⟨j, hj, e⟩ => by rw [show k = j by omega]; exact hj, fun h => ⟨k, h, rfl⟩⟩
theorem iv_app {a b : List Nat} : iv a ++ iv b = iv (a ++ b) := by unfold iv; rw [List.map_append]
local macro_rules | `(tactic| infer_instance) => `(tactic| simp only [↓wSs_nil, ↓wSs_cons, ↓wS_asg, ↓wS_asgT, ↓wS_par, ↓wS_exp, ↓wS_ifs, ↓wS_ret0, ↓wS_raise, ↓wS_raise0, ↓wS_brk, ↓wS_cnt, ↓wS_retV, ↓wS_ret_glb, ↓wS_ret_cst, ↓wS_ret_prim, ↓wS_ret_not, ↓wS_ret_bop, ↓wS_ret_chn, ↓wS_ret_call, ↓wS_ret_lc, ↓wS_ret_exf, ↓wS_ret_slc, ↓wS_for, ↓wS_try, ↓wA_var, ↓wA_glb, ↓wA_cst, ↓wA_op, ↓wA_cmp, ↓wA_neg, ↓wA_ix, ↓wA_len, ↓wA_toInt, ↓wA_abs, ↓wA_toTup, ↓wA_toLst, ↓wA_isi, ↓wA_bits, ↓wA_fmtB, ↓wA_rev, ↓wA_cnt, ↓wA_sset, ↓wA_lrng, ↓wA_sorted, ↓wA_min, ↓wA_max, ↓wA_tup, ↓wA_lst, ↓wA_not, ↓wA_bop, ↓wB_1, ↓wB_2, ↓wA_chn, ↓wA_chn3, ↓wA_exi, ↓wA_exv, ↓wA_slc, ↓wP_nil, ↓wP_one, ↓wA_call, ↓wA_exf, ↓wAs_nil, ↓wAs_cons, ↓wI_ex, ↓wI_rng1, ↓wI_rng2, ↓wI_rng3, ↓cRg_2, ↓cRg_3, ↓wT_eq, ↓wTs_nil, ↓wTs_cons, ↓cRd_0, ↓cRd_1, ↓cVl_val, ↓cVl_own, ↓cOw_0, ↓cOw_1, ↓cVls_nil, ↓cVls_cons, ↓cSt_val, ↓cSt_own, ↓cSo_eq, ↓cSts_nil, ↓cSts_cons, ↓cAc_val, ↓cTr_bl, ↓cTr_int, ↓cTr_lst, ↓cTr_tup, ↓cTr_scr, ↓cTr_non, ↓cPr_add, ↓cPr_sub, ↓cPr_mul, ↓cPr_mulL, ↓cPr_addL, ↓cPr_addZ, ↓cPr_fdiv, ↓cPr_mod, ↓cPr_pow, ↓cPr_shl, ↓cPr_shr, ↓cPr_neg, ↓cPr_lt, ↓cPr_le, ↓cPr_gt, ↓cPr_ge, ↓cPr_eqI, ↓cPr_neI, ↓cPr_eq, ↓cPr_ne, ↓cPr_tup, ↓cPr_lst, ↓cIx_eq, ↓cIx_eqL, ↓cIx_eqS, ↓cIx_eqZ, ↓cIx_0, ↓cIx_1, ↓cIx_2, ↓cIx_3, ↓cIx_4, ↓cIx_5, ↓cIx_6, ↓cIx_7, ↓cPr_lenL, ↓cPr_lenT, ↓cPr_lenS, ↓cPr_lenZ, ↓cPr_bits, ↓cPr_fmtB, ↓cPr_rev, ↓cPr_cnt, ↓cPr_lrng, ↓cPr_band, ↓cPr_bor, ↓cPr_sset, ↓cPr_toInt, ↓cPr_toIntB, ↓cPr_abs, ↓cPr_toLstL, ↓cPr_toLstT, ↓cPr_toTupL, ↓cPr_toTupT, ↓cPr_min, ↓cPr_max, ↓cPr_sorted, ↓cPr_inI2, ↓cPr_ninI2, ↓cPr_inZ, ↓cPr_ninZ, ↓cSg_1, ↓cPr_inT2, ↓cPr_ninT2, ↓cPr_isiI, ↓cPr_isiB, ↓cPr_isiN, ↓cPr_isiT, ↓cPr_isiL, ↓cPr_isiS, ↓cPr_isN, ↓cPr_isI, ↓cPr_isT, ↓cPr_isL, ↓cPr_inN, ↓cPr_inI, ↓cPr_inT, ↓cPr_inL, ↓cIn_int, ↓cCut_lst, ↓cCut_str, ↓cCm_lt, ↓cCm_le, ↓cCm_gt, ↓cCm_ge, ↓cGl_eq, ↓cLe_nil, ↓cLe_val, ↓cLe_own, ↓cLo_eq, ↓cTg_nm, ↓cTg_tup, ↓cTo_n, ↓cTo_f, ↓cTgs_nil, ↓cTgs_cons, ↓cPa_nil, ↓cPa_cons, ↓cLs_eq, ↓cHd_n, ↓cHd_f, ↓wIf_t, ↓wIf_f, ↓wAsk_true, ↓cAc_own, ↓cFz_eq, ↓fV_nil, ↓fV_cons, ↓cV_nil, ↓cV_cons, ↓cSx_0, ↓cSx_1, ↓wH_app, ↓wH_setix, ↓wH_whl, ↓wL_lc, ↓cIt_tup, ↓cIt_lst, ↓cIt_str, ↓cIt_scr, ↓wI_enu, ↓cIe_lst, ↓cIe_str, ↓cIe_scr, Option.getD_some, Option.getD_none, Bool.or_true, Bool.true_or, Bool.or_false, Bool.false_or, reduceCtorEq, Nat.reduceSub, Int.cast_ofNat_Int, Int.natCast_zero, Int.natCast_one, okD_int, okD_bl, okD_non, okD_nilL, okD_nilT, peq_nilL, peq_nilT, peq_int, peq_str, peq_bl, okD_bls2, peq_bls2, okD_bls3, peq_bls3, okD_str, dneN, Nat.reduceBEq, Nat.reduceAdd, Nat.reduceLeDiff, sizeMax, Nat.zero_add, Int.reduceToNat, Int.reducePow, Int.reduceSub, Int.reduceAdd, Int.reduceMul, Int.reduceNeg, Int.reduceLT, Int.reduceLE, Int.reduceEq, beq_true, beq_false, wIf_n, wIf_t, wIf_f, wAsk_true, back, List.set_cons_zero, List.set_cons_succ, List.getElem?_cons_zero, List.getElem?_cons_succ, List.nil_append, List.cons_append, List.map_cons, List.map_nil, List.replicate_zero, List.replicate_succ, List.length_cons, List.length_nil, noLent, List.all_nil, List.all_cons, finals_some, finals_none, finals_0, Bool.and_true, Bool.true_and, Bool.not_true, Bool.not_false, decide_true, decide_false, Bool.false_eq_true, ite_true, ite_false, if_true, if_false, and_self, and_true, true_and, eq_self, clr, unwipe, wipeE, ↓K03.gl0, K03.oS, zS_len, zS_cps, zS_add, zS_one, K03.iv_len, ↓K03.cPr_nin_iv, K03.iv_app])
local macro_rules | `(tactic| left) => `(tactic| first | (with_reducible assumption) | (with_reducible refine mulOk_of ⟨?_, ?_⟩ ⟨?_, ?_⟩ <;> omega) | (with_reducible refine divOk_of ?_ ?_ <;> omega) | omega | (with_reducible refine rngOk3_of ?_; omega) | (with_reducible refine ⟨rngOk_of ?_, rngOk_of ?_⟩ <;> omega) | (simp only [List.length_cons, List.length_nil, sizeMax]; omega))
local macro_rules | `(tactic| and_intros) => `(tactic| repeat (first | infer_instance | ((with_reducible refine wAsk_of ?_ ?_); (focus left)) | with_reducible refine wS_setix ?_ | with_reducible refine wS_app ?_))

def goodP (p : Int) : Bool := decide (0 ≤ p) && decide (p ≤ 5000)
theorem good_bad {p : Int} : goodP p = !badP p := by
  unfold goodP badP
  by_cases h1 : 0 ≤ p <;> by_cases h2 : p ≤ 5000
  · rw [decide_eq_true h1, decide_eq_true h2, decide_eq_false (by omega), decide_eq_false (by omega)]; rfl
  · rw [decide_eq_true h1, decide_eq_false h2, decide_eq_false (by omega), decide_eq_true (by omega)]; rfl
  · rw [decide_eq_false h1, decide_eq_true h2, decide_eq_true (by omega), decide_eq_false (by omega)]; rfl
  · rw [decide_eq_false h1, decide_eq_false h2, decide_eq_true (by omega), decide_eq_true (by omega)]; rfl
/-- the positions in range, ascending -/
def ordN (ps : List Int) : List Nat := (uset (ps.filter goodP)).map Int.toNat
theorem ord_mem {ps : List Int} {z : Int} (h : z ∈ uset (ps.filter goodP)) : 0 ≤ z ∧ z ≤ 5000 := by
  have := (List.mem_filter.mp ((uset_mem z _).mp h)).2
  unfold goodP at this
  simpa using this
theorem ord_iv {ps : List Int} : (uset (ps.filter goodP)).map PV.int = iv (ordN ps) := by
  unfold iv ordN
  rw [List.map_map]
  refine List.map_congr_left fun z hz => ?_
  show PV.int z = PV.int ((z.toNat : Nat) : Int)
  rw [Int.toNat_of_nonneg (ord_mem hz).1]
theorem ord_lt {ps : List Int} : ∀ i ∈ ordN ps, i < 5001 := fun i hi => by
  obtain ⟨z, hz, rfl⟩ := List.mem_map.mp hi
  have := ord_mem hz
  omega
theorem ord_asc {ps : List Int} : (ordN ps).Pairwise (· < ·) := by
  unfold ordN
  rw [List.pairwise_map]
  refine (List.Pairwise.and_mem.mp (uset_lt (ps.filter goodP))).imp fun {a b} h => ?_
  obtain ⟨h1, h2, h3⟩ := h
  have := ord_mem h1
  have := ord_mem h2
  omega
theorem ord_all {ps : List Int} (h : ps.filter badP = []) (i : Nat) : i ∈ ps.map Int.toNat ↔ i ∈ ordN ps := by
  have good : ∀ p ∈ ps, goodP p = true := fun p hp => by
    rw [good_bad]
    have := List.filter_eq_nil_iff.mp h p hp
    simpa using this
  unfold ordN
  rw [List.mem_map, List.mem_map]
  exact ⟨fun ⟨p, hp, e⟩ => ⟨p, (uset_mem p _).mpr (List.mem_filter.mpr ⟨hp, good p hp⟩), e⟩, fun ⟨p, hp, e⟩ => ⟨p, (List.mem_filter.mp ((uset_mem p _).mp hp)).1, e⟩⟩
theorem insU_len (x : Int) : ∀ l : List Int, (insU x l).length ≤ l.length + 1
  | [] => Nat.le_refl _
  | y :: ys => by
    unfold insU
    split
    · exact Nat.le_refl _
    · split
      · exact Nat.le_succ _
      · exact Nat.succ_le_succ (insU_len x ys)
theorem uset_len : ∀ l : List Int, (uset l).length ≤ l.length
  | [] => Nat.le_refl _
  | x :: xs => by
    have h1 := insU_len x (uset xs)
    have h2 := uset_len xs
    show (insU x (uset xs)).length ≤ xs.length + 1
    omega
theorem ord_len {ps : List Int} : (ordN ps).length ≤ ps.length := by
  unfold ordN
  rw [List.length_map]
  exact Nat.le_trans (uset_len _) (List.length_filter_le _ _)
theorem range60 : rangeL 60 5001 = iv (List.range' 60 4941) := by
  unfold rangeL iv
  rw [List.range'_eq_map_range, List.map_map, show ((5001 : Int) - 60).toNat = 4941 from rfl]
  refine List.map_congr_left fun k _ => ?_
  show PV.int (60 + (k : Int)) = PV.int ((60 + k : Nat) : Int)
  rw [Int.natCast_add]
  rfl
def Due (ps : List Int) (M : Nat) (a b : Int) : Prop := ps.filter badP = [] ∧ a = 0 ∧ b = M ∨ ∃ r, ps.filter badP = b :: r ∧ a = 1
theorem Due.none {ps : List Int} {M : Nat} (h : ps.filter badP = []) : Due ps M 0 M := .inl ⟨h, rfl, rfl⟩
theorem Due.one {ps r : List Int} {M : Nat} {w : Int} (h : ps.filter badP = w :: r) : Due ps M 1 w := .inr ⟨r, h, rfl⟩
theorem top_of {M n : Nat} (h : M < 2 ^ n) (hn : n ≤ 5001) : M < TOP := Nat.lt_of_lt_of_le h (Nat.pow_le_pow_right (by decide) hn)
theorem bits_top {M : Nat} {S : List Nat} (h : Bits M S) (hs : ∀ i ∈ S, i < 5001) : M < TOP := h.lt hs
theorem pure_law (ns : List Int) (hl : ns.length ≤ 63) : ∃ dd ps, callAt P 20 lawFn [⟨.scr ns, 0, false⟩] = .ret (.bl true) dd ps := by
  refine CR.of_w (m := .mk) (fn_w (n := 19) (fn := f_law) rfl rfl ?_)
  refine wSs_mid (fun e => ∃ p0 p1, Pool p0 p1 ∧ e = [some ⟨.scr ns, 0, false⟩, some ⟨.lst [.int p0, .int p1], 1, false⟩, none, none, none, none, none, none, none, none, none, none, none, none, none, none]) ?_ ?_
  · simp only [f_law]
    and_intros
    refine pool_w (n := 18) hpo ⟨by decide, by decide⟩ fun q0 q1 hp => ?_
    and_intros
    exact ⟨_, _, hp, rfl⟩
  rintro e ⟨p0, p1, hp, rfl⟩
  with_reducible refine wSs_mid (fun e => ∃ p0 p1 m, (Pool p0 p1 ∧ 0 ≤ m ∧ m < 61) ∧ e = [some ⟨.scr ns, 0, false⟩, some ⟨.lst [.int p0, .int p1], 1, false⟩, some ⟨.int m, 0, false⟩, none, none, none, none, none, none, none, none, none, none, none, none, none]) ?_ ?_
  · and_intros
    refine draw_w (n := 18) hdr hp ⟨by decide, by decide⟩ fun r q0 q1 r1 r2 hp => ?_
    and_intros
    exact ⟨_, _, _, ⟨hp, by omega, by omega⟩, rfl⟩
  rintro e ⟨p0, p1, m, ⟨hp, hm⟩, rfl⟩
  with_reducible refine wSs_mid (fun e => ∃ p0 p1 m, (Pool p0 p1 ∧ 0 ≤ m ∧ m < 61) ∧ e = [some ⟨.scr ns, 0, false⟩, some ⟨.lst [.int p0, .int p1], 1, false⟩, some ⟨.int m, 0, false⟩, none, none, none, none, none, none, none, none, none, none, none, none, none]) ?_ ?_
  · and_intros
    refine draw_w (n := 18) hdr hp ⟨by decide, by decide⟩ fun r q0 q1 r1 r2 hp => ?_
    and_intros
    refine wIf_p (fun c => ?_) (fun c => ?_)
    · and_intros
      refine draw_w (n := 18) hdr hp ⟨by decide, by decide⟩ fun r q0 q1 r1 r2 hp => ?_
      and_intros
      exact ⟨_, _, _, ⟨hp, by omega, by omega⟩, rfl⟩
    · and_intros
      exact ⟨_, _, _, ⟨hp, hm⟩, rfl⟩
  clear hm hp m
  rintro e ⟨p0, p1, m, ⟨hp, hm⟩, rfl⟩
  with_reducible refine wSs_mid (fun e => ∃ p0 p1 ps, (Pool p0 p1 ∧ List.length ps ≤ 61) ∧ e = [some ⟨.scr ns, 0, false⟩, some ⟨.lst [.int p0, .int p1], 1, false⟩, some ⟨.int m, 0, false⟩, some ⟨.lst (ps.map PV.int), 1, false⟩, none, none, none, none, none, none, none, none, none, none, none, none]) ?_ ?_
  · and_intros
    refine draw_w (n := 18) hdr hp ⟨by decide, by decide⟩ fun r q0 q1 r1 r2 hp => ?_
    and_intros
    refine positionsL_w (n := 17) hm ⟨by omega, by omega⟩ fun ps h1 y z => ?_
    and_intros
    exact ⟨_, _, ps, ⟨hp, h1⟩, rfl⟩
  clear hp p0 p1
  rintro e ⟨p0, p1, ps, ⟨hp, hn⟩, rfl⟩
  with_reducible refine wSs_mid (fun e => e = [some ⟨.scr ns, 0, false⟩, some ⟨.lst [.int p0, .int p1], 1, false⟩, some ⟨.int m, 0, false⟩, some ⟨.lst (ps.map PV.int), 0, false⟩, some ⟨.lst ((ps.filter badP).map PV.int), 1, false⟩, none, none, none, none, none, none, none, none, none, none, none]) ?_ ?_
  · and_intros
    with_reducible refine wA_lc ?_
    simp only [↓wSs_nil, ↓wSs_cons, ↓wS_asg, ↓wS_asgT, ↓wS_par, ↓wS_exp, ↓wS_ifs, ↓wS_ret0, ↓wS_raise, ↓wS_raise0, ↓wS_brk, ↓wS_cnt, ↓wS_retV, ↓wS_ret_glb, ↓wS_ret_cst, ↓wS_ret_prim, ↓wS_ret_not, ↓wS_ret_bop, ↓wS_ret_chn, ↓wS_ret_call, ↓wS_ret_lc, ↓wS_ret_exf, ↓wS_ret_slc, ↓wS_for, ↓wS_try, ↓wA_var, ↓wA_glb, ↓wA_cst, ↓wA_op, ↓wA_cmp, ↓wA_neg, ↓wA_ix, ↓wA_len, ↓wA_toInt, ↓wA_abs, ↓wA_toTup, ↓wA_toLst, ↓wA_isi, ↓wA_bits, ↓wA_fmtB, ↓wA_rev, ↓wA_cnt, ↓wA_sset, ↓wA_lrng, ↓wA_sorted, ↓wA_min, ↓wA_max, ↓wA_tup, ↓wA_lst, ↓wA_not, ↓wA_bop, ↓wB_1, ↓wB_2, ↓wA_chn, ↓wA_chn3, ↓wA_exi, ↓wA_exv, ↓wA_slc, ↓wP_nil, ↓wP_one, ↓wA_call, ↓wA_exf, ↓wAs_nil, ↓wAs_cons, ↓wI_ex, ↓wI_rng1, ↓wI_rng2, ↓wI_rng3, ↓cRg_2, ↓cRg_3, ↓wT_eq, ↓wTs_nil, ↓wTs_cons, ↓cRd_0, ↓cRd_1, ↓cVl_val, ↓cVl_own, ↓cOw_0, ↓cOw_1, ↓cVls_nil, ↓cVls_cons, ↓cSt_val, ↓cSt_own, ↓cSo_eq, ↓cSts_nil, ↓cSts_cons, ↓cAc_val, ↓cTr_bl, ↓cTr_int, ↓cTr_lst, ↓cTr_tup, ↓cTr_scr, ↓cTr_non, ↓cPr_add, ↓cPr_sub, ↓cPr_mul, ↓cPr_mulL, ↓cPr_addL, ↓cPr_addZ, ↓cPr_fdiv, ↓cPr_mod, ↓cPr_pow, ↓cPr_shl, ↓cPr_shr, ↓cPr_neg, ↓cPr_lt, ↓cPr_le, ↓cPr_gt, ↓cPr_ge, ↓cPr_eqI, ↓cPr_neI, ↓cPr_eq, ↓cPr_ne, ↓cPr_tup, ↓cPr_lst, ↓cIx_eq, ↓cIx_eqL, ↓cIx_eqS, ↓cIx_eqZ, ↓cIx_0, ↓cIx_1, ↓cIx_2, ↓cIx_3, ↓cIx_4, ↓cIx_5, ↓cIx_6, ↓cIx_7, ↓cPr_lenL, ↓cPr_lenT, ↓cPr_lenS, ↓cPr_lenZ, ↓cPr_bits, ↓cPr_fmtB, ↓cPr_rev, ↓cPr_cnt, ↓cPr_lrng, ↓cPr_band, ↓cPr_bor, ↓cPr_sset, ↓cPr_toInt, ↓cPr_toIntB, ↓cPr_abs, ↓cPr_toLstL, ↓cPr_toLstT, ↓cPr_toTupL, ↓cPr_toTupT, ↓cPr_min, ↓cPr_max, ↓cPr_sorted, ↓cPr_inI2, ↓cPr_ninI2, ↓cPr_inZ, ↓cPr_ninZ, ↓cSg_1, ↓cPr_inT2, ↓cPr_ninT2, ↓cPr_isiI, ↓cPr_isiB, ↓cPr_isiN, ↓cPr_isiT, ↓cPr_isiL, ↓cPr_isiS, ↓cPr_isN, ↓cPr_isI, ↓cPr_isT, ↓cPr_isL, ↓cPr_inN, ↓cPr_inI, ↓cPr_inT, ↓cPr_inL, ↓cIn_int, ↓cCut_lst, ↓cCut_str, ↓cCm_lt, ↓cCm_le, ↓cCm_gt, ↓cCm_ge, ↓cGl_eq, ↓cLe_nil, ↓cLe_val, ↓cLe_own, ↓cLo_eq, ↓cTg_nm, ↓cTg_tup, ↓cTo_n, ↓cTo_f, ↓cTgs_nil, ↓cTgs_cons, ↓cPa_nil, ↓cPa_cons, ↓cLs_eq, ↓cHd_n, ↓cHd_f, ↓wIf_t, ↓wIf_f, ↓wAsk_true, ↓cAc_own, ↓cFz_eq, ↓fV_nil, ↓cV_nil, ↓cSx_0, ↓cSx_1, ↓wH_app, ↓wH_setix, ↓wH_whl, ↓wL_lc, ↓cIt_tup, ↓cIt_lst, ↓cIt_str, ↓cIt_scr, ↓wI_enu, ↓cIe_lst, ↓cIe_str, ↓cIe_scr, Option.getD_some, Option.getD_none, Bool.or_true, Bool.true_or, Bool.or_false, Bool.false_or, reduceCtorEq, Nat.reduceSub, Int.cast_ofNat_Int, Int.natCast_zero, Int.natCast_one, okD_int, okD_bl, okD_non, okD_nilL, okD_nilT, peq_nilL, peq_nilT, peq_int, peq_str, peq_bl, okD_bls2, peq_bls2, okD_bls3, peq_bls3, okD_str, dneN, Nat.reduceBEq, Nat.reduceAdd, Nat.reduceLeDiff, sizeMax, Nat.zero_add, Int.reduceToNat, Int.reducePow, Int.reduceSub, Int.reduceAdd, Int.reduceMul, Int.reduceNeg, Int.reduceLT, Int.reduceLE, Int.reduceEq, beq_true, beq_false, wIf_n, wIf_t, wIf_f, wAsk_true, back, List.set_cons_zero, List.set_cons_succ, List.getElem?_cons_zero, List.getElem?_cons_succ, List.nil_append, List.cons_append, List.map_cons, List.map_nil, List.replicate_zero, List.replicate_succ, List.length_cons, List.length_nil, noLent, List.all_nil, List.all_cons, finals_some, finals_none, finals_0, Bool.and_true, Bool.true_and, Bool.not_true, Bool.not_false, decide_true, decide_false, Bool.false_eq_true, ite_true, ite_false, if_true, if_false, and_self, and_true, true_and, eq_self, clr, unwipe, wipeE]
    refine cV_ind (fun rest acc e => ∃ dn rs : List Int, (ps = dn ++ rs ∧ rest = rs.map PV.int ∧ acc = (dn.filter badP).map PV.int) ∧ e = [some ⟨.scr ns, 0, false⟩, some ⟨.lst [.int p0, .int p1], 1, false⟩, some ⟨.int m, 0, false⟩, some ⟨.lst (ps.map PV.int), 0, false⟩, none, none, none, none, none, none, none, none, none, none, none, none]) ?_ ?_ _ _ _ ⟨[], ps, ⟨rfl, rfl, rfl⟩, rfl⟩
    · rintro x rest acc e ⟨dn, rs, ⟨hd, hr, ha⟩, rfl⟩
      cases rs with
      | nil => simp at hr
      | cons p rs =>
        obtain ⟨rfl, rfl⟩ : x = .int p ∧ rest = rs.map PV.int := by simpa using hr
        have acl : acc.length ≤ 61 := by
          rw [ha, List.length_map]
          have h1 := List.length_filter_le badP dn
          have h2 := congrArg List.length hd
          rw [List.length_append] at h2
          omega
        have yes : badP p = true → acc ++ [PV.int p] = ((dn ++ [p]).filter badP).map PV.int := fun c => by
          rw [ha, List.filter_append, List.map_append, List.filter_cons_of_pos c]
          rfl
        have no : badP p = false → acc = ((dn ++ [p]).filter badP).map PV.int := fun c => by
          rw [ha, List.filter_append, List.map_append, List.filter_cons_of_neg (by rw [c]; decide)]
          simp
        and_intros
        refine wIf_p (fun c => ?_) (fun c => ?_)
        · and_intros
          exact ⟨dn ++ [p], rs, by rw [hd]; simp, rfl, yes (by unfold badP; rw [decide_eq_true c, Bool.true_or])⟩
        · and_intros
          refine wIf_p (fun c2 => ?_) (fun c2 => ?_)
          · and_intros
            exact ⟨dn ++ [p], rs, by rw [hd]; simp, rfl, yes (by unfold badP; rw [decide_eq_true c2, Bool.or_true])⟩
          · and_intros
            exact ⟨dn ++ [p], rs, by rw [hd]; simp, rfl, no (by unfold badP; rw [decide_eq_false c, decide_eq_false c2]; rfl)⟩
    · rintro acc e ⟨dn, rs, ⟨hd, hr, ha⟩, rfl⟩
      cases rs with
      | cons => simp at hr
      | nil =>
        rw [List.append_nil] at hd
        subst hd
        rw [ha]
        and_intros
  rintro e rfl
  with_reducible refine wSs_mid (fun e => e = [some ⟨.scr ns, 0, false⟩, some ⟨.lst [.int p0, .int p1], 1, false⟩, some ⟨.int m, 0, false⟩, some ⟨.lst (ps.map PV.int), 0, false⟩, some ⟨.lst ((ps.filter badP).map PV.int), 1, false⟩, none, some ⟨.lst (iv (ordN ps)), 1, false⟩, none, none, none, none, none, none, none, none, none]) ?_ ?_
  · and_intros
    with_reducible refine wA_lc ?_
    simp only [↓wSs_nil, ↓wSs_cons, ↓wS_asg, ↓wS_asgT, ↓wS_par, ↓wS_exp, ↓wS_ifs, ↓wS_ret0, ↓wS_raise, ↓wS_raise0, ↓wS_brk, ↓wS_cnt, ↓wS_retV, ↓wS_ret_glb, ↓wS_ret_cst, ↓wS_ret_prim, ↓wS_ret_not, ↓wS_ret_bop, ↓wS_ret_chn, ↓wS_ret_call, ↓wS_ret_lc, ↓wS_ret_exf, ↓wS_ret_slc, ↓wS_for, ↓wS_try, ↓wA_var, ↓wA_glb, ↓wA_cst, ↓wA_op, ↓wA_cmp, ↓wA_neg, ↓wA_ix, ↓wA_len, ↓wA_toInt, ↓wA_abs, ↓wA_toTup, ↓wA_toLst, ↓wA_isi, ↓wA_bits, ↓wA_fmtB, ↓wA_rev, ↓wA_cnt, ↓wA_sset, ↓wA_lrng, ↓wA_sorted, ↓wA_min, ↓wA_max, ↓wA_tup, ↓wA_lst, ↓wA_not, ↓wA_bop, ↓wB_1, ↓wB_2, ↓wA_chn, ↓wA_chn3, ↓wA_exi, ↓wA_exv, ↓wA_slc, ↓wP_nil, ↓wP_one, ↓wA_call, ↓wA_exf, ↓wAs_nil, ↓wAs_cons, ↓wI_ex, ↓wI_rng1, ↓wI_rng2, ↓wI_rng3, ↓cRg_2, ↓cRg_3, ↓wT_eq, ↓wTs_nil, ↓wTs_cons, ↓cRd_0, ↓cRd_1, ↓cVl_val, ↓cVl_own, ↓cOw_0, ↓cOw_1, ↓cVls_nil, ↓cVls_cons, ↓cSt_val, ↓cSt_own, ↓cSo_eq, ↓cSts_nil, ↓cSts_cons, ↓cAc_val, ↓cTr_bl, ↓cTr_int, ↓cTr_lst, ↓cTr_tup, ↓cTr_scr, ↓cTr_non, ↓cPr_add, ↓cPr_sub, ↓cPr_mul, ↓cPr_mulL, ↓cPr_addL, ↓cPr_addZ, ↓cPr_fdiv, ↓cPr_mod, ↓cPr_pow, ↓cPr_shl, ↓cPr_shr, ↓cPr_neg, ↓cPr_lt, ↓cPr_le, ↓cPr_gt, ↓cPr_ge, ↓cPr_eqI, ↓cPr_neI, ↓cPr_eq, ↓cPr_ne, ↓cPr_tup, ↓cPr_lst, ↓cIx_eq, ↓cIx_eqL, ↓cIx_eqS, ↓cIx_eqZ, ↓cIx_0, ↓cIx_1, ↓cIx_2, ↓cIx_3, ↓cIx_4, ↓cIx_5, ↓cIx_6, ↓cIx_7, ↓cPr_lenL, ↓cPr_lenT, ↓cPr_lenS, ↓cPr_lenZ, ↓cPr_bits, ↓cPr_fmtB, ↓cPr_rev, ↓cPr_cnt, ↓cPr_lrng, ↓cPr_band, ↓cPr_bor, ↓cPr_sset, ↓cPr_toInt, ↓cPr_toIntB, ↓cPr_abs, ↓cPr_toLstL, ↓cPr_toLstT, ↓cPr_toTupL, ↓cPr_toTupT, ↓cPr_min, ↓cPr_max, ↓cPr_sorted, ↓cPr_inI2, ↓cPr_ninI2, ↓cPr_inZ, ↓cPr_ninZ, ↓cSg_1, ↓cPr_inT2, ↓cPr_ninT2, ↓cPr_isiI, ↓cPr_isiB, ↓cPr_isiN, ↓cPr_isiT, ↓cPr_isiL, ↓cPr_isiS, ↓cPr_isN, ↓cPr_isI, ↓cPr_isT, ↓cPr_isL, ↓cPr_inN, ↓cPr_inI, ↓cPr_inT, ↓cPr_inL, ↓cIn_int, ↓cCut_lst, ↓cCut_str, ↓cCm_lt, ↓cCm_le, ↓cCm_gt, ↓cCm_ge, ↓cGl_eq, ↓cLe_nil, ↓cLe_val, ↓cLe_own, ↓cLo_eq, ↓cTg_nm, ↓cTg_tup, ↓cTo_n, ↓cTo_f, ↓cTgs_nil, ↓cTgs_cons, ↓cPa_nil, ↓cPa_cons, ↓cLs_eq, ↓cHd_n, ↓cHd_f, ↓wIf_t, ↓wIf_f, ↓wAsk_true, ↓cAc_own, ↓cFz_eq, ↓fV_nil, ↓cV_nil, ↓cSx_0, ↓cSx_1, ↓wH_app, ↓wH_setix, ↓wH_whl, ↓wL_lc, ↓cIt_tup, ↓cIt_lst, ↓cIt_str, ↓cIt_scr, ↓wI_enu, ↓cIe_lst, ↓cIe_str, ↓cIe_scr, Option.getD_some, Option.getD_none, Bool.or_true, Bool.true_or, Bool.or_false, Bool.false_or, reduceCtorEq, Nat.reduceSub, Int.cast_ofNat_Int, Int.natCast_zero, Int.natCast_one, okD_int, okD_bl, okD_non, okD_nilL, okD_nilT, peq_nilL, peq_nilT, peq_int, peq_str, peq_bl, okD_bls2, peq_bls2, okD_bls3, peq_bls3, okD_str, dneN, Nat.reduceBEq, Nat.reduceAdd, Nat.reduceLeDiff, sizeMax, Nat.zero_add, Int.reduceToNat, Int.reducePow, Int.reduceSub, Int.reduceAdd, Int.reduceMul, Int.reduceNeg, Int.reduceLT, Int.reduceLE, Int.reduceEq, beq_true, beq_false, wIf_n, wIf_t, wIf_f, wAsk_true, back, List.set_cons_zero, List.set_cons_succ, List.getElem?_cons_zero, List.getElem?_cons_succ, List.nil_append, List.cons_append, List.map_cons, List.map_nil, List.replicate_zero, List.replicate_succ, List.length_cons, List.length_nil, noLent, List.all_nil, List.all_cons, finals_some, finals_none, finals_0, Bool.and_true, Bool.true_and, Bool.not_true, Bool.not_false, decide_true, decide_false, Bool.false_eq_true, ite_true, ite_false, if_true, if_false, and_self, and_true, true_and, eq_self, clr, unwipe, wipeE]
    refine cV_ind (fun rest acc e => ∃ dn rs : List Int, (ps = dn ++ rs ∧ rest = rs.map PV.int ∧ acc = (dn.filter goodP).map PV.int) ∧ e = [some ⟨.scr ns, 0, false⟩, some ⟨.lst [.int p0, .int p1], 1, false⟩, some ⟨.int m, 0, false⟩, some ⟨.lst (ps.map PV.int), 0, false⟩, some ⟨.lst ((ps.filter badP).map PV.int), 1, false⟩, none, none, none, none, none, none, none, none, none, none, none]) ?_ ?_ _ _ _ ⟨[], ps, ⟨rfl, rfl, rfl⟩, rfl⟩
    · rintro x rest acc e ⟨dn, rs, ⟨hd, hr, ha⟩, rfl⟩
      cases rs with
      | nil => simp at hr
      | cons p rs =>
        obtain ⟨rfl, rfl⟩ : x = .int p ∧ rest = rs.map PV.int := by simpa using hr
        have acl : acc.length ≤ 61 := by
          rw [ha, List.length_map]
          have h1 := List.length_filter_le goodP dn
          have h2 := congrArg List.length hd
          rw [List.length_append] at h2
          omega
        have yes : goodP p = true → acc ++ [PV.int p] = ((dn ++ [p]).filter goodP).map PV.int := fun c => by
          rw [ha, List.filter_append, List.map_append, List.filter_cons_of_pos c]
          rfl
        have no : goodP p = false → acc = ((dn ++ [p]).filter goodP).map PV.int := fun c => by
          rw [ha, List.filter_append, List.map_append, List.filter_cons_of_neg (by rw [c]; decide)]
          simp
        and_intros
        refine wIf_p (fun c => ?_) (fun c => ?_)
        · and_intros
          refine wIf_p (fun c2 => ?_) (fun c2 => ?_)
          · and_intros
            exact ⟨dn ++ [p], rs, by rw [hd]; simp, rfl, yes (by unfold goodP; rw [decide_eq_true c, decide_eq_true c2]; rfl)⟩
          · and_intros
            exact ⟨dn ++ [p], rs, by rw [hd]; simp, rfl, no (by unfold goodP; rw [decide_eq_false c2, Bool.and_false])⟩
        · and_intros
          exact ⟨dn ++ [p], rs, by rw [hd]; simp, rfl, no (by unfold goodP; rw [decide_eq_false c, Bool.false_and])⟩
    · rintro acc e ⟨dn, rs, ⟨hd, hr, ha⟩, rfl⟩
      cases rs with
      | cons => simp at hr
      | nil =>
        rw [List.append_nil] at hd
        subst hd
        rw [ha]
        and_intros
        refine wAsk_of (Nat.lt_of_le_of_lt (List.length_filter_le _ _) (by omega)) ?_
        rw [ord_iv]
        and_intros
  rintro e rfl
  with_reducible refine wSs_mid (fun e => ∃ M : Nat, Bits M (ordN ps) ∧ e = [some ⟨.scr ns, 0, false⟩, some ⟨.lst [.int p0, .int p1], 1, false⟩, some ⟨.int m, 0, false⟩, some ⟨.lst (ps.map PV.int), 0, false⟩, some ⟨.lst ((ps.filter badP).map PV.int), 1, false⟩, none, some ⟨.lst (iv (ordN ps)), 0, false⟩, some ⟨.int (M : Int), 0, false⟩, none, none, none, none, none, none, none, none]) ?_ ?_
  · and_intros
    refine law_mask_w (n := 18) ord_asc ord_lt fun M hM => ?_
    and_intros
    exact ⟨M, hM, rfl⟩
  rintro e ⟨M, hM, rfl⟩
  with_reducible refine wSs_mid (fun e => e = [some ⟨.scr ns, 0, false⟩, some ⟨.lst [.int p0, .int p1], 1, false⟩, some ⟨.int m, 0, false⟩, some ⟨.lst (ps.map PV.int), 0, false⟩, some ⟨.lst ((ps.filter badP).map PV.int), 1, false⟩, none, some ⟨.lst (iv (ordN ps)), 0, false⟩, some ⟨.int (M : Int), 0, false⟩, some ⟨.lst [.int 0, .int (M : Int)], 1, false⟩, none, none, none, none, none, none, none]) ?_ ?_
  · and_intros
  rintro e rfl
  with_reducible refine wSs_mid (fun e => ∃ a b : Int, Due ps M a b ∧ e = [some ⟨.scr ns, 0, false⟩, some ⟨.lst [.int p0, .int p1], 1, false⟩, some ⟨.int m, 0, false⟩, some ⟨.lst (ps.map PV.int), 0, false⟩, some ⟨.lst ((ps.filter badP).map PV.int), 1, false⟩, none, some ⟨.lst (iv (ordN ps)), 0, false⟩, some ⟨.int (M : Int), 0, false⟩, some ⟨.lst [.int a, .int b], 1, false⟩, none, none, none, none, none, none, none]) ?_ ?_
  · cases hw : ps.filter badP with
    | nil =>
      and_intros
      exact ⟨0, M, Due.none hw, rfl⟩
    | cons w r =>
      and_intros
      refine wIf_p (fun c => ?_) (fun c => absurd (show (0 : Int) < _ by omega) c)
      and_intros
      exact ⟨1, w, Due.one hw, rfl⟩
  rintro e ⟨a, b, hab, rfl⟩
  have okp := okD_ints ps
  have pep : peq (.lst (ps.map PV.int)) (.lst (ps.map PV.int)) = true := by rw [peq_ints, decide_eq_true rfl]
  have same : ∀ M' : Nat, ps.filter badP = [] → Bits M' (ps.map Int.toNat) → M' = M := fun M' h1 h2 => h2.same hM (ord_all h1)
  with_reducible refine wSs_mid (fun e => e = [some ⟨.scr ns, 0, false⟩, some ⟨.lst [.int p0, .int p1], 1, false⟩, some ⟨.int m, 0, false⟩, some ⟨.lst (ps.map PV.int), 0, false⟩, some ⟨.lst ((ps.filter badP).map PV.int), 1, false⟩, none, some ⟨.lst (iv (ordN ps)), 0, false⟩, some ⟨.int (M : Int), 0, false⟩, some ⟨.lst [.int a, .int b], 1, false⟩, some ⟨.lst (ps.map PV.int), 1, false⟩, none, none, none, none, none, none]) ?_ ?_
  · and_intros
  rintro e rfl
  with_reducible refine wSs_mid (fun e => e = [some ⟨.scr ns, 0, false⟩, some ⟨.lst [.int p0, .int p1], 1, false⟩, some ⟨.int m, 0, false⟩, some ⟨.lst (ps.map PV.int), 0, false⟩, some ⟨.lst ((ps.filter badP).map PV.int), 1, false⟩, none, some ⟨.lst (iv (ordN ps)), 0, false⟩, some ⟨.int (M : Int), 0, false⟩, some ⟨.lst [.int a, .int b], 1, false⟩, some ⟨.lst (ps.map PV.int), 0, false⟩, none, none, none, none, none, none]) ?_ ?_
  · rcases hab with ⟨hw, rfl, rfl⟩ | ⟨r, hw, rfl⟩
    · and_intros
      refine told_w (n := 17) (.inl ⟨rfl, rfl, rfl⟩) (fun M' h1 h2 => ?_) (fun w r h1 => absurd (hw.symm.trans h1) (by simp))
      obtain rfl := same M' h1 h2
      and_intros
      refine is_told_w (n := 18) fun y z => ?_
      and_intros
      rw [pep]
      and_intros
    · and_intros
      refine told_w (n := 17) (.inl ⟨rfl, rfl, rfl⟩) (fun M' h1 h2 => absurd (h1.symm.trans hw) (by simp)) (fun w r' h1 => ?_)
      obtain ⟨rfl, rfl⟩ : b = w ∧ r = r' := by simpa using hw.symm.trans h1
      and_intros
      refine is_told_w (n := 18) fun y z => ?_
      and_intros
      rw [pep]
      and_intros
  rintro e rfl
  with_reducible refine wSs_mid (fun e => e = [some ⟨.scr ns, 0, false⟩, some ⟨.lst [.int p0, .int p1], 1, false⟩, some ⟨.int m, 0, false⟩, some ⟨.lst (ps.map PV.int), 0, false⟩, some ⟨.lst ((ps.filter badP).map PV.int), 1, false⟩, none, some ⟨.lst (iv (ordN ps)), 0, false⟩, some ⟨.int (M : Int), 0, false⟩, some ⟨.lst [.int a, .int b], 1, false⟩, some ⟨.lst (ps.map PV.int), 0, false⟩, none, none, none, none, none, none]) ?_ ?_
  · have hlen : (ordN ps).length ≤ 5001 := Nat.le_trans ord_len (by omega)
    rcases hab with ⟨hw, rfl, rfl⟩ | ⟨r, hw, rfl⟩
    · and_intros
      refine told_w (n := 17) (.inr ⟨rfl, rfl, rfl⟩) (fun M' h1 h2 => ?_) (fun w r h1 => absurd (hw.symm.trans h1) (by simp))
      obtain rfl := same M' h1 h2
      and_intros
      refine is_told_w (n := 18) fun y z => ?_
      and_intros
      refine is_shown_w (n := 15) (.inl rfl) hM ord_asc (bits_top hM ord_lt) hlen fun y => ?_
      and_intros
    · and_intros
      refine told_w (n := 17) (.inr ⟨rfl, rfl, rfl⟩) (fun M' h1 h2 => absurd (h1.symm.trans hw) (by simp)) (fun w r' h1 => ?_)
      obtain ⟨rfl, rfl⟩ : b = w ∧ r = r' := by simpa using hw.symm.trans h1
      and_intros
      refine is_told_w (n := 18) fun y z => ?_
      and_intros
      refine is_shown_w (n := 15) (.inl rfl) hM ord_asc (bits_top hM ord_lt) hlen fun y => ?_
      and_intros
  clear hp
  rintro e rfl
  with_reducible refine wSs_mid (fun e => ∃ p0 p1, Pool p0 p1 ∧ e = [some ⟨.scr ns, 0, false⟩, some ⟨.lst [.int p0, .int p1], 1, false⟩, some ⟨.int m, 0, false⟩, some ⟨.lst (ps.map PV.int), 0, false⟩, some ⟨.lst ((ps.filter badP).map PV.int), 1, false⟩, none, some ⟨.lst (iv (ordN ps)), 0, false⟩, some ⟨.int (M : Int), 0, false⟩, some ⟨.lst [.int a, .int b], 1, false⟩, some ⟨.lst (ps.map PV.int), 0, false⟩, none, none, none, none, none, none]) ?_ ?_
  · and_intros
    refine pool_w (n := 18) hpo ⟨by decide, by decide⟩ fun q0 q1 hp => ?_
    and_intros
    exact ⟨_, _, hp, rfl⟩
  clear p0 p1
  rintro e ⟨p0, p1, hp, rfl⟩
  with_reducible refine wSs_mid (fun e => ∃ (p0 p1 : Int) (N : Nat), (Pool p0 p1 ∧ N < 2 ^ 60) ∧ e = [some ⟨.scr ns, 0, false⟩, some ⟨.lst [.int p0, .int p1], 1, false⟩, some ⟨.int m, 0, false⟩, some ⟨.lst (ps.map PV.int), 0, false⟩, some ⟨.lst ((ps.filter badP).map PV.int), 1, false⟩, none, some ⟨.lst (iv (ordN ps)), 0, false⟩, some ⟨.int (M : Int), 0, false⟩, some ⟨.lst [.int a, .int b], 1, false⟩, some ⟨.lst (ps.map PV.int), 0, false⟩, some ⟨.int (N : Int), 0, false⟩, none, none, none, none, none]) ?_ ?_
  · and_intros
    refine draw_w (n := 18) hdr hp ⟨by decide, by decide⟩ fun r q0 q1 r1 r2 hp => ?_
    and_intros
    refine menu_go (ns := [2, 64, 1000000, 1000000000000000000]) r1 r2 fun z hz => ?_
    have hz2 : 0 < z ∧ z ≤ 1000000000000000000 := by
      simp only [List.mem_cons, List.not_mem_nil, or_false] at hz
      omega
    and_intros
    refine wide_w (n := 17) hwi hdr hp ⟨hz2.1, by omega⟩ fun r q0 q1 r1 r2 hp => ?_
    obtain ⟨N, rfl⟩ : ∃ N : Nat, r = N := ⟨r.toNat, by omega⟩
    and_intros
    exact ⟨_, _, N, ⟨hp, by omega⟩, rfl⟩
  clear hp p0 p1
  rintro e ⟨p0, p1, N, ⟨hp, hN⟩, rfl⟩
  with_reducible refine wSs_mid (fun e => ∃ (p0 p1 : Int) (s : Nat), (Pool p0 p1 ∧ s ≤ 4900) ∧ e = [some ⟨.scr ns, 0, false⟩, some ⟨.lst [.int p0, .int p1], 1, false⟩, some ⟨.int m, 0, false⟩, some ⟨.lst (ps.map PV.int), 0, false⟩, some ⟨.lst ((ps.filter badP).map PV.int), 1, false⟩, none, some ⟨.lst (iv (ordN ps)), 0, false⟩, some ⟨.int (M : Int), 0, false⟩, some ⟨.lst [.int a, .int b], 1, false⟩, some ⟨.lst (ps.map PV.int), 0, false⟩, some ⟨.int (N : Int), 0, false⟩, some ⟨.int (s : Int), 0, false⟩, none, none, none, none]) ?_ ?_
  · and_intros
    refine draw_w (n := 18) hdr hp ⟨by decide, by decide⟩ fun r q0 q1 r1 r2 hp => ?_
    obtain ⟨s, rfl⟩ : ∃ s : Nat, r = s := ⟨r.toNat, by omega⟩
    and_intros
    exact ⟨_, _, s, ⟨hp, by omega⟩, rfl⟩
  clear hp p0 p1
  rintro e ⟨p0, p1, s, ⟨hp, hs⟩, rfl⟩
  have bN := onesN_bits hN
  with_reducible refine wSs_mid (fun e => e = [some ⟨.scr ns, 0, false⟩, some ⟨.lst [.int p0, .int p1], 1, false⟩, some ⟨.int m, 0, false⟩, some ⟨.lst (ps.map PV.int), 0, false⟩, some ⟨.lst ((ps.filter badP).map PV.int), 1, false⟩, none, some ⟨.lst (iv (ordN ps)), 0, false⟩, some ⟨.int (M : Int), 0, false⟩, some ⟨.lst [.int a, .int b], 1, false⟩, some ⟨.lst (ps.map PV.int), 0, false⟩, some ⟨.int (N : Int), 0, false⟩, some ⟨.int (s : Int), 0, false⟩, none, none, none, none]) ?_ ?_
  · and_intros
    have e1 : (N : Int) * (1 * 2 ^ (s : Int).toNat) = ((N * 2 ^ s : Nat) : Int) := by
      rw [Int.one_mul, Int.toNat_natCast, Int.natCast_mul, Int.natCast_pow]
      rfl
    have e2 : (1 : Int) * 2 ^ (s : Int).toNat = ((2 ^ s : Nat) : Int) := by
      rw [Int.one_mul, Int.toNat_natCast, Int.natCast_pow]
      rfl
    have b1 : N * 2 ^ s < 2 ^ (60 + s) := by
      rw [Nat.pow_add]
      exact Nat.mul_lt_mul_of_pos_right hN (Nat.two_pow_pos s)
    refine wAsk_of (mulOk_pw (a := 60) (b := s + 1) ⟨by omega, by omega⟩ ?_ (by omega)) ?_
    · rw [e2]
      refine ⟨Int.natCast_nonneg _, ?_⟩
      have : 2 ^ s < 2 ^ (s + 1) := Nat.pow_lt_pow_right (by decide) (by omega)
      rw [show ((2 : Int) ^ (s + 1)) = ((2 ^ (s + 1) : Nat) : Int) by rw [Int.natCast_pow]; rfl]
      exact Int.ofNat_lt.mpr this
    rw [e1]
    refine ones_w (n := 18) hN fun y z => ?_
    and_intros
    refine is_shown_w (n := 15) (.inr rfl) bN.shift ?_ (top_of b1 (by omega)) ?_ fun y => ?_
    · rw [List.pairwise_map]
      exact onesN_lt.imp fun h => by omega
    · rw [List.length_map]
      have := onesN_len (N := N)
      omega
    and_intros
  rintro e rfl
  with_reducible refine wSs_mid (fun e => e = [some ⟨.scr ns, 0, false⟩, some ⟨.lst [.int p0, .int p1], 1, false⟩, some ⟨.int m, 0, false⟩, some ⟨.lst (ps.map PV.int), 0, false⟩, some ⟨.lst ((ps.filter badP).map PV.int), 1, false⟩, none, some ⟨.lst (iv (ordN ps)), 0, false⟩, some ⟨.int (M : Int), 0, false⟩, some ⟨.lst [.int a, .int b], 1, false⟩, some ⟨.lst (ps.map PV.int), 0, false⟩, some ⟨.int (N : Int), 0, false⟩, some ⟨.int (s : Int), 0, false⟩, some ⟨.int (TOP : Int), 0, false⟩, none, none, none]) ?_ ?_
  · and_intros
    rw [show (1 : Int) * 2 ^ 5001 = (TOP : Int) by unfold TOP; rw [Int.one_mul, Int.natCast_pow, Int.cast_ofNat_Int]]
  rintro e rfl
  have hT := top_pos
  have hNT : N < TOP := top_of hN (by decide)
  with_reducible refine wSs_mid (fun e => e = [some ⟨.scr ns, 0, false⟩, some ⟨.lst [.int p0, .int p1], 1, false⟩, some ⟨.int m, 0, false⟩, some ⟨.lst (ps.map PV.int), 0, false⟩, some ⟨.lst ((ps.filter badP).map PV.int), 1, false⟩, none, some ⟨.lst (iv (ordN ps)), 0, false⟩, some ⟨.int (M : Int), 0, false⟩, some ⟨.lst [.int a, .int b], 1, false⟩, some ⟨.lst (ps.map PV.int), 0, false⟩, some ⟨.int (N : Int), 0, false⟩, some ⟨.int (s : Int), 0, false⟩, some ⟨.int (TOP : Int), 0, false⟩, some ⟨.lst (iv (onesN N)), 1, false⟩, none, none]) ?_ ?_
  · and_intros
    refine ones_w (n := 18) (s := 0) hN fun y z => ?_
    and_intros
    rw [List.map_id']
  rintro e rfl
  with_reducible refine wSs_mid (fun e => ∃ p0 p1 : Int, e = [some ⟨.scr ns, 0, false⟩, some ⟨.lst [.int p0, .int p1], 1, false⟩, some ⟨.int m, 0, false⟩, some ⟨.lst (ps.map PV.int), 0, false⟩, some ⟨.lst ((ps.filter badP).map PV.int), 1, false⟩, none, some ⟨.lst (iv (ordN ps)), 0, false⟩, some ⟨.int (M : Int), 0, false⟩, some ⟨.lst [.int a, .int b], 1, false⟩, some ⟨.lst (ps.map PV.int), 0, false⟩, some ⟨.int (N : Int), 0, false⟩, some ⟨.int (s : Int), 0, false⟩, some ⟨.int (TOP : Int), 0, false⟩, some ⟨.lst (iv (onesN N)), 1, false⟩, none, none]) ?_ ?_
  · and_intros
    refine draw_w (n := 18) hdr hp ⟨by decide, by decide⟩ fun r q0 q1 r1 r2 hp => ?_
    and_intros
    refine wIf_p (fun c => ?_) (fun c => ?_)
    · and_intros
      rw [show (TOP : Int) - 1 - (N : Int) = ((TOP - 1 - N : Nat) : Int) by omega]
      generalize hL : onesN N = L
      with_reducible refine wA_lc ?_
      simp only [↓wSs_nil, ↓wSs_cons, ↓wS_asg, ↓wS_asgT, ↓wS_par, ↓wS_exp, ↓wS_ifs, ↓wS_ret0, ↓wS_raise, ↓wS_raise0, ↓wS_brk, ↓wS_cnt, ↓wS_retV, ↓wS_ret_glb, ↓wS_ret_cst, ↓wS_ret_prim, ↓wS_ret_not, ↓wS_ret_bop, ↓wS_ret_chn, ↓wS_ret_call, ↓wS_ret_lc, ↓wS_ret_exf, ↓wS_ret_slc, ↓wS_for, ↓wS_try, ↓wA_var, ↓wA_glb, ↓wA_cst, ↓wA_op, ↓wA_cmp, ↓wA_neg, ↓wA_ix, ↓wA_len, ↓wA_toInt, ↓wA_abs, ↓wA_toTup, ↓wA_toLst, ↓wA_isi, ↓wA_bits, ↓wA_fmtB, ↓wA_rev, ↓wA_cnt, ↓wA_sset, ↓wA_lrng, ↓wA_sorted, ↓wA_min, ↓wA_max, ↓wA_tup, ↓wA_lst, ↓wA_not, ↓wA_bop, ↓wB_1, ↓wB_2, ↓wA_chn, ↓wA_chn3, ↓wA_exi, ↓wA_exv, ↓wA_slc, ↓wP_nil, ↓wP_one, ↓wA_call, ↓wA_exf, ↓wAs_nil, ↓wAs_cons, ↓wI_ex, ↓wI_rng1, ↓wI_rng2, ↓wI_rng3, ↓cRg_2, ↓cRg_3, ↓wT_eq, ↓wTs_nil, ↓wTs_cons, ↓cRd_0, ↓cRd_1, ↓cVl_val, ↓cVl_own, ↓cOw_0, ↓cOw_1, ↓cVls_nil, ↓cVls_cons, ↓cSt_val, ↓cSt_own, ↓cSo_eq, ↓cSts_nil, ↓cSts_cons, ↓cAc_val, ↓cTr_bl, ↓cTr_int, ↓cTr_lst, ↓cTr_tup, ↓cTr_scr, ↓cTr_non, ↓cPr_add, ↓cPr_sub, ↓cPr_mul, ↓cPr_mulL, ↓cPr_addL, ↓cPr_addZ, ↓cPr_fdiv, ↓cPr_mod, ↓cPr_pow, ↓cPr_shl, ↓cPr_shr, ↓cPr_neg, ↓cPr_lt, ↓cPr_le, ↓cPr_gt, ↓cPr_ge, ↓cPr_eqI, ↓cPr_neI, ↓cPr_eq, ↓cPr_ne, ↓cPr_tup, ↓cPr_lst, ↓cIx_eq, ↓cIx_eqL, ↓cIx_eqS, ↓cIx_eqZ, ↓cIx_0, ↓cIx_1, ↓cIx_2, ↓cIx_3, ↓cIx_4, ↓cIx_5, ↓cIx_6, ↓cIx_7, ↓cPr_lenL, ↓cPr_lenT, ↓cPr_lenS, ↓cPr_lenZ, ↓cPr_bits, ↓cPr_fmtB, ↓cPr_rev, ↓cPr_cnt, ↓cPr_lrng, ↓cPr_band, ↓cPr_bor, ↓cPr_sset, ↓cPr_toInt, ↓cPr_toIntB, ↓cPr_abs, ↓cPr_toLstL, ↓cPr_toLstT, ↓cPr_toTupL, ↓cPr_toTupT, ↓cPr_min, ↓cPr_max, ↓cPr_sorted, ↓cPr_inI2, ↓cPr_ninI2, ↓cPr_inZ, ↓cPr_ninZ, ↓cSg_1, ↓cPr_inT2, ↓cPr_ninT2, ↓cPr_isiI, ↓cPr_isiB, ↓cPr_isiN, ↓cPr_isiT, ↓cPr_isiL, ↓cPr_isiS, ↓cPr_isN, ↓cPr_isI, ↓cPr_isT, ↓cPr_isL, ↓cPr_inN, ↓cPr_inI, ↓cPr_inT, ↓cPr_inL, ↓cIn_int, ↓cCut_lst, ↓cCut_str, ↓cCm_lt, ↓cCm_le, ↓cCm_gt, ↓cCm_ge, ↓cGl_eq, ↓cLe_nil, ↓cLe_val, ↓cLe_own, ↓cLo_eq, ↓cTg_nm, ↓cTg_tup, ↓cTo_n, ↓cTo_f, ↓cTgs_nil, ↓cTgs_cons, ↓cPa_nil, ↓cPa_cons, ↓cLs_eq, ↓cHd_n, ↓cHd_f, ↓wIf_t, ↓wIf_f, ↓wAsk_true, ↓cAc_own, ↓cFz_eq, ↓fV_nil, ↓cV_nil, ↓cSx_0, ↓cSx_1, ↓wH_app, ↓wH_setix, ↓wH_whl, ↓wL_lc, ↓cIt_tup, ↓cIt_lst, ↓cIt_str, ↓cIt_scr, ↓wI_enu, ↓cIe_lst, ↓cIe_str, ↓cIe_scr, Option.getD_some, Option.getD_none, Bool.or_true, Bool.true_or, Bool.or_false, Bool.false_or, reduceCtorEq, Nat.reduceSub, Int.cast_ofNat_Int, Int.natCast_zero, Int.natCast_one, okD_int, okD_bl, okD_non, okD_nilL, okD_nilT, peq_nilL, peq_nilT, peq_int, peq_str, peq_bl, okD_bls2, peq_bls2, okD_bls3, peq_bls3, okD_str, dneN, Nat.reduceBEq, Nat.reduceAdd, Nat.reduceLeDiff, sizeMax, Nat.zero_add, Int.reduceToNat, Int.reducePow, Int.reduceSub, Int.reduceAdd, Int.reduceMul, Int.reduceNeg, Int.reduceLT, Int.reduceLE, Int.reduceEq, beq_true, beq_false, wIf_n, wIf_t, wIf_f, wAsk_true, back, List.set_cons_zero, List.set_cons_succ, List.getElem?_cons_zero, List.getElem?_cons_succ, List.nil_append, List.cons_append, List.map_cons, List.map_nil, List.replicate_zero, List.replicate_succ, List.length_cons, List.length_nil, noLent, List.all_nil, List.all_cons, finals_some, finals_none, finals_0, Bool.and_true, Bool.true_and, Bool.not_true, Bool.not_false, decide_true, decide_false, Bool.false_eq_true, ite_true, ite_false, if_true, if_false, and_self, and_true, true_and, eq_self, clr, unwipe, wipeE]
      refine ⟨60, rfl, rfl, ?_⟩
      rw [show rangeL 0 60 = (List.range' 0 (60 - 0)).map fun k : Nat => PV.int k from rangeL_nat (n := 60)]
      refine cV_ind (fun rest acc e => ∃ k : Nat, (k ≤ 60 ∧ rest = (List.range' k (60 - k)).map (fun k : Nat => PV.int k) ∧ acc = iv ((List.range k).filter fun i => !decide (i ∈ L))) ∧ e = [some ⟨.scr ns, 0, false⟩, some ⟨.lst [.int q0, .int q1], 1, false⟩, some ⟨.int m, 0, false⟩, some ⟨.lst (ps.map PV.int), 0, false⟩, some ⟨.lst ((ps.filter badP).map PV.int), 1, false⟩, none, some ⟨.lst (iv (ordN ps)), 0, false⟩, some ⟨.int (M : Int), 0, false⟩, some ⟨.lst [.int a, .int b], 1, false⟩, some ⟨.lst (ps.map PV.int), 0, false⟩, some ⟨.int (N : Int), 0, false⟩, some ⟨.int (s : Int), 0, false⟩, some ⟨.int (TOP : Int), 0, false⟩, some ⟨.lst (iv L), 1, false⟩, none, none]) ?_ ?_ _ _ _ ⟨0, ⟨Nat.zero_le _, rfl, rfl⟩, rfl⟩
      · rintro x rest acc e ⟨k, ⟨hk, hr, ha⟩, rfl⟩
        rcases Nat.lt_or_ge k 60 with lt | ge
        · rw [rg_cons lt] at hr
          obtain ⟨rfl, rfl⟩ : x = .int k ∧ rest = (List.range' (k + 1) (60 - (k + 1))).map (fun k : Nat => PV.int k) := by simpa using hr
          have acl : acc.length ≤ 60 := by
            rw [ha, iv_len]
            exact Nat.le_trans (List.length_filter_le _ _) (by rw [List.length_range]; exact hk)
          have e1 : (List.range (k + 1)).filter (fun i => !decide (i ∈ L)) = (List.range k).filter (fun i => !decide (i ∈ L)) ++ if (!decide (k ∈ L)) = true then [k] else [] := by
            rw [List.range_succ, List.filter_append]
            cases hq : !decide (k ∈ L) <;> simp [hq]
          infer_instance
          refine wIf_p (fun c2 => ?_) (fun c2 => ?_)
          · rw [decide_eq_true c2] at e1
            infer_instance
            have e2 : acc = iv ((List.range (k + 1)).filter fun i => !decide (i ∈ L)) := by
              rw [ha, e1]
              simp
            first
              | exact ⟨k + 1, ⟨lt, rfl, e2⟩, rfl⟩
              | exact ⟨k + 1, lt, rfl, e2⟩
          · rw [decide_eq_false c2] at e1
            infer_instance
            have e2 : acc ++ [PV.int k] = iv ((List.range (k + 1)).filter fun i => !decide (i ∈ L)) := by
              rw [ha, e1, if_pos (by decide), ← iv_app]
              rfl
            refine wAsk_of (by omega) ?_
            first
              | exact ⟨k + 1, ⟨lt, rfl, e2⟩, rfl⟩
              | exact ⟨k + 1, lt, rfl, e2⟩
        · rw [show 60 - k = 0 by omega] at hr
          simp at hr
      · rintro acc e ⟨k, ⟨hk, hr, ha⟩, rfl⟩
        have ek : k = 60 := by
          apply Classical.byContradiction
          intro z
          rw [rg_cons (by omega : k < 60)] at hr
          simp at hr
        subst ek ha
        and_intros
        rw [range60]
        have l1 : ((List.range 60).filter fun i => !decide (i ∈ L)).length ≤ 60 := Nat.le_trans (List.length_filter_le _ _) (by rw [List.length_range]; exact Nat.le_refl _)
        have l2 : (List.range' 60 4941).length = 4941 := List.length_range'
        rw [iv_len]
        refine wAsk_of (by omega) ?_
        rw [iv_app]
        refine is_shown_w (n := 15) (.inr rfl) (bN.neg (n := 5001) hNT fun i => ?_) ?_ (by omega : TOP - 1 - N < TOP) (by rw [List.length_append]; omega) fun y => ?_
        · rw [hL, List.mem_append, List.mem_filter, List.mem_range, List.mem_range'_1]
          have h60 : i ∈ L → i < 60 := fun h => onesN_60 (hL ▸ h)
          by_cases hi : i ∈ L
          · have := h60 hi
            simp [hi]
            omega
          · simp [hi]
            omega
        · refine List.pairwise_append.mpr ⟨List.pairwise_lt_range.filter _, List.pairwise_lt_range', fun a ha b hb => ?_⟩
          have h1 := List.mem_range.mp (List.mem_filter.mp ha).1
          have h2 := List.mem_range'_1.mp hb
          omega
        and_intros
        exact ⟨_, _, rfl⟩
    · and_intros
      exact ⟨_, _, rfl⟩
  rintro e ⟨p0, p1, rfl⟩
  and_intros
  refine is_refused_w (n := 15) (.inl (by decide)) fun y => ?_
  and_intros
  refine is_refused_w (n := 15) (.inl (by omega)) fun y => ?_
  and_intros
  refine is_refused_w (n := 15) (.inr (by omega)) fun y => ?_
  and_intros
  refine is_refused_w (n := 15) (.inr (by omega)) fun y => ?_
  and_intros
  refine is_refused_w (n := 15) (.inr (by omega)) fun y => ?_
  and_intros
end K03

namespace K03
open PySem PySem.W PySem.Calls PyProof.Rows
theorem hs : MP.fnsB P P.fns ds = true := by decide +kernel
abbrev R : PySem.W.OpenRow := PySem.W.OpenLaw.row PySem.Challenge.rw_rollstep_k03_bits
abbrev hk : PySem.W.Hook := MP.hookM 4 ds (MP.exB P R.prog)
def ob (s : PySem.W.SharedT) : MP.AlM := MP.obsM 4 ds (MP.exB P R.prog) (HandSHeadRun.getT s)
theorem ob_eq (s : PySem.W.SharedT) : ob s = hk.obs s.abs := MP.obsM_eq (HandSHeadRun.getT_eq s)
theorem run (w : World) : HandSHeadRun.RunEq R (PySem.W.view R.prog [22]) hk ob 2000 names w := by
  intro os
  kernel_rfl
end K03
open PySem PySem.W PySem.Calls PyProof.Rows
theorem PySem.Challenge.cw_rollstep_k03_bits_holds : PySem.Challenge.rw_rollstep_k03_bits.Holds := by
  w_on; o_law
  refine HandSHeadRun.head_any (r := K03.R) (q := view K03.R.prog [22]) (H := K03.hk) (ob := K03.ob) (M := 2000) (loose := K03.names) (d := HandSHeadRun.topDef K03.R.prog 22) (kwd := []) K03.ob_eq
    (by kernel_rfl) (fun s => by kernel_rfl) K03.run (by kernel_rfl) (by kernel_rfl) (by kernel_rfl) (by rfl) (by first | assumption | decide +kernel) (by decide +kernel) ⟨rfl, rfl, rfl, rfl, rfl, by decide +kernel⟩ ?hw ?hc
  case hw => w_witness2
  case hc => exact MP.walk_mp (l := PySem.Challenge.rw_rollstep_k03_bits) (n := 20) (m := 63) (f := K03.lawFn) (fn := K03.f_law) (x := "script") (by rfl) (by decide) (by kernel_rfl) ⟨rfl, by decide, by decide⟩ K03.hs (by kernel_rfl) rfl rfl rfl (by kernel_rfl) K03.pure_law
