import PyProof.Rows.All
import Wide.All
import OpenK.AllK
import Wide.FinOn
import HandS.ForSpec
import HandS.Wide
import HandS.Gcd
import HandS.IsInst
import HandS.Flow
import HandS.Iter
import HandS.CallSlots
import HandS.Style
import HandS.Steps
import HandS.ForExc
import HandS.Deep
import HandS.TupAny
import HandS.Text
import HandS.Conv
import KE.IntTextLaws
import HandS.RaiseMore
import HandS.Nested
import HandS.ExcInit
import HandS.FStr
import KE.KExcSuper
import HandS.TryOnly
import HandS.ExcField
import HandS.ExcIs
import KE.KExcIs
import PySem.Challenge.RW_besideandthrough_k89_tokens_and_values
set_option Elab.async false
set_option linter.all false
set_option maxRecDepth 100000
set_option maxHeartbeats 4000000
section
/-! BtSem: a small language of its own: data, expressions, statements, a big-step evaluator. Core Lean alone. -/
set_option autoImplicit false
namespace BT

/-- data: what a Python value says -/
inductive D where
  | non | bl (b : Bool) | int (i : Int) | str (s : List Nat)
  | tup (xs : List D) | lst (xs : List D)
  | obj (c : Nat) (fs : List D)
  | loc (l : Nat)
  | exn (c : Nat) (fs : List D)
instance : Inhabited D := ⟨.non⟩

/-- the greatest length -/
abbrev LIM : Nat := 1000000

/-- an exception: its class, its fields -/
structure Exc where
  cls : Nat
  fs : List D

/-- the store: class and fields (each with its depth of ownership) -/
abbrev Sto := List (Nat × List (Nat × D))
structure S where
  env : List (Option (Nat × D))
  sto : Sto

/-- a value at hand: its own (k: how deep it may be changed; 0: frozen), or borrowed from a place -/
inductive EV where
  | own (k : Nat) (d : D)
  | bor (k : Nat) (d : D)
def EV.d : EV → D
  | .own _ d => d
  | .bor _ d => d

inductive Out (α : Type) where
  | ok (a : α) (s : S)
  | exc (x : Exc) (s : S)
  | err
def Out.bind {α β : Type} (o : Out α) (f : α → S → Out β) : Out β :=
  match o with
  | .ok a s => f a s
  | .exc x s => .exc x s
  | .err => .err
/-- a call's end -/
inductive CR where
  | ok (k : Nat) (d : D) (s : Sto)
  | exc (x : Exc) (s : Sto)
  | err
/-- a statement's end -/
inductive Fl where
  | next (s : S)
  | brk (s : S)
  | cont (s : S)
  | ret (k : Nat) (d : D) (s : Sto)
  | exc (x : Exc) (s : S)
  | err

def scal : D → Bool
  | .tup _ => false
  | .lst _ => false
  | .obj _ _ => false
  | .exn _ _ => false
  | _ => true

inductive BOp where
  | add | sub | mul | fdiv | mod | pow
inductive COp where
  | eq | ne | lt | le | gt | ge | is | isNot | isin | notin
/-- built-in types, for isinstance -/
inductive Ty where
  | int | bool | str | tuple | list
inductive BI where
  | len | int | abs | gcd | max2 | min2 | str | sum

mutual
inductive CE where
  | non | bl (b : Bool) | int (i : Int) | str (s : List Nat)
  | var (i : Nat) | bor (i : Nat) | mv (i : Nat)
  | bin (op : BOp) (a b : CE)
  | neg (a : CE)
  | cmp (op : COp) (a b : CE)
  | chn (o1 o2 : COp) (a b c : CE)
  | and (a b : CE) | or (a b : CE) | not (a : CE)
  | ife (c a b : CE)
  | tup (k : Nat) (es : CEs) | lst (k : Nat) (es : CEs)
  | idx (a i : CE)
  | call (f : Nat) (es : CEs)
  | bi (f : BI) (es : CEs)
  | isi (t : Ty) (a : CE)
  | cat (a b : CE)
  | sl (a : CE) (lo hi : CO)
  | lof (a : CE) | tof (a : CE)
  | xf (i : Nat) (tab : List (Nat × Nat)) | xis (i : Nat) (cs : List Nat)
inductive CEs where
  | nil | cons (e : CE) (es : CEs)
inductive CO where
  | non | som (e : CE)
end

/-- what a for walks -/
inductive CI where
  | val (e : CE)
  | range1 (a : CE)
  | range2 (a b : CE)
  | enum (e : CE)

/-- targets: slots -/
inductive Tg where
  | name (i : Nat)
  | tup (is : List Nat)

mutual
inductive CS where
  | pass | brk | cont
  | ret (e : CE) | retN
  | expr (e : CE)
  | asg (t : Tg) (e : CE)
  | par (i j : Nat) (a b : CE)
  | par3 (i j l : Nat) (a b c : CE)
  | aug (i : Nat) (op : BOp) (e : CE)
  | app (i : Nat) (e : CE)
  | setI (i : Nat) (ix e : CE)
  | pop (i : Nat)
  | popA (i j : Nat)
  | appL (i : Nat) (e : CE)
  | rai (c n : Nat) (es : CEs)
  | tri (b : CSs) (cs : List Nat) (i : Option Nat) (u : CSs)
  | ifs (c : CE) (a b : CSs)
  | for (t : Tg) (it : CI) (b : CSs)
  | whl (c : CE) (b : CSs)
inductive CSs where
  | nil | cons (s : CS) (r : CSs)
end

/-! ### operations -/
/-- the int of an int or a bool -/
def b2i (b : Bool) : Int := if b then 1 else 0
mutual
/-- nothing but plain data -/
def plain : D → Bool
  | .tup xs => plainL xs
  | .lst xs => plainL xs
  | .obj _ _ => false
  | .loc _ => false
  | .exn _ _ => false
  | _ => true
def plainL : List D → Bool
  | [] => true
  | x :: xs => plain x && plainL xs
end
mutual
def dep : D → Nat
  | .tup xs => depL xs + 1
  | .lst xs => depL xs + 1
  | .obj _ xs => depL xs + 1
  | .exn _ xs => depL xs + 1
  | _ => 0
def depL : List D → Nat
  | [] => 0
  | x :: xs => max (dep x) (depL xs)
end
mutual
/-- plain, no list in it -/
def noL : D → Bool
  | .tup xs => noLL xs
  | .lst _ => false
  | .obj _ _ => false
  | .loc _ => false
  | .exn _ _ => false
  | _ => true
def noLL : List D → Bool
  | [] => true
  | x :: xs => noL x && noLL xs
end
mutual
/-- no exception in it -/
def noX : D → Bool
  | .tup xs => noXL xs
  | .lst xs => noXL xs
  | .obj _ xs => noXL xs
  | .exn _ _ => false
  | _ => true
def noXL : List D → Bool
  | [] => true
  | x :: xs => noX x && noXL xs
end
def noXE : List (Option (Nat × D)) → Bool
  | [] => true
  | none :: r => noXE r
  | some (_, d) :: r => noX d && noXE r
def noXF : List (Nat × D) → Bool
  | [] => true
  | (_, d) :: r => noX d && noXF r
def noXS : Sto → Bool
  | [] => true
  | (_, fs) :: r => noXF fs && noXS r
def okD (d : D) : Bool := plain d && decide (dep d ≤ 100)
mutual
/-- == of plain data -/
def eqB : D → D → Bool
  | .non, .non => true
  | .bl a, .bl b => decide (a = b)
  | .int a, .int b => decide (a = b)
  | .bl a, .int b => decide (b2i a = b)
  | .int a, .bl b => decide (a = b2i b)
  | .str a, .str b => decide (a = b)
  | .tup a, .tup b => eqL a b
  | .lst a, .lst b => eqL a b
  | _, _ => false
def eqL : List D → List D → Bool
  | [], [] => true
  | x :: xs, y :: ys => eqB x y && eqL xs ys
  | _, _ => false
end
def eqD (a b : D) : Option Bool := if okD a && okD b then some (eqB a b) else none
def bitsOk (i j : Int) : Bool := decide (i.natAbs < 18446744073709551616) || decide (j.natAbs < 18446744073709551616) || decide (i.natAbs.log2 + j.natAbs.log2 < 1000000)
def binop : BOp → D → D → Option D
  | .add, .int i, .int j => some (.int (i + j))
  | .sub, .int i, .int j => some (.int (i - j))
  | .mul, .int i, .int j => if bitsOk i j then some (.int (i * j)) else none
  | .fdiv, .int i, .int j => if 0 < j ∧ j.natAbs.log2 < 9000 then some (.int (i / j)) else none
  | .mod, .int i, .int j => if 0 < j then some (.int (i % j)) else none
  | .pow, .int i, .int j => if 0 ≤ j ∧ j ≤ 1000 ∧ i.natAbs < 18446744073709551616 then some (.int (i ^ j.toNat)) else none
  | .add, .str a, .str b => if a.length + b.length ≤ LIM then some (.str (a ++ b)) else none
  | _, _, _ => none
/-- op= of scalars -/
def augop : BOp → D → D → Option D
  | .add, .int i, .int j => some (.int (i + j))
  | .sub, .int i, .int j => some (.int (i - j))
  | .add, .str a, .str b => if a.length + b.length ≤ LIM then some (.str (a ++ b)) else none
  | _, _, _ => none
/-- is, of None and bools on the right -/
def isD : D → D → Option Bool
  | .non, .non => some true
  | _, .non => some false
  | .bl a, .bl b => some (decide (a = b))
  | _, _ => none
/-- one sign within a text, an item of a list -/
def inS : D → D → Option Bool
  | .str [c], .str t => some (t.contains c)
  | x, .lst ys => if (plain x && decide (dep x ≤ 60)) && (plainL ys && decide (depL ys ≤ 60)) then some (ys.any fun z => eqB z x) else none
  | x, .tup ys => if (plain x && decide (dep x ≤ 60)) && (plainL ys && decide (depL ys ≤ 60)) then some (ys.any fun z => eqB z x) else none
  | _, _ => none
def cmpop : COp → D → D → Option Bool
  | .eq, a, b => eqD a b
  | .ne, a, b => (eqD a b).map (!·)
  | .lt, .int i, .int j => some (decide (i < j))
  | .le, .int i, .int j => some (decide (i ≤ j))
  | .gt, .int i, .int j => some (decide (j < i))
  | .ge, .int i, .int j => some (decide (j ≤ i))
  | .is, a, b => isD a b
  | .isNot, a, b => (isD a b).map (!·)
  | .isin, a, b => inS a b
  | .notin, a, b => (inS a b).map (!·)
  | _, _, _ => none
def truth : D → Option Bool
  | .non => some false
  | .bl b => some b
  | .int i => some (i != 0)
  | .str s => if s.length ≤ LIM then some (!s.isEmpty) else none
  | .tup xs => some (!xs.isEmpty)
  | .lst xs => some (!xs.isEmpty)
  | _ => none
/-- the place that an index means -/
def ixN (n : Nat) (i : Int) : Option Nat := if 0 ≤ i then (if i < n then some i.toNat else none) else if -(n : Int) ≤ i then some (i + n).toNat else none
def idxD : D → D → Option D
  | .tup xs, .int i => (ixN xs.length i).bind fun j => xs[j]?
  | .lst xs, .int i => (ixN xs.length i).bind fun j => xs[j]?
  | .str s, .int i => if s.length ≤ LIM then ((ixN s.length i).bind fun j => s[j]?).map fun c => .str [c] else none
  | _, _ => none
def isiD : Ty → D → Option Bool
  | _, .obj _ _ => none
  | _, .exn _ _ => none
  | _, .loc _ => none
  | .int, .int _ => some true
  | .int, .bl _ => some true
  | .bool, .bl _ => some true
  | .str, .str _ => some true
  | .tuple, .tup _ => some true
  | .list, .lst _ => some true
  | _, _ => some false
/-- an int's text -/
def strI (i : Int) : List Nat := (toString i).toList.map Char.toNat
/-- a list's ints -/
def intsD : List D → Option (List Int)
  | [] => some []
  | .int i :: ds => (intsD ds).map (i :: ·)
  | _ => none
/-- the number that digits write -/
def digV (l : List Nat) : Nat := l.foldl (fun n c => n * 10 + (c - 48)) 0
def isDg (c : Nat) : Bool := decide (48 ≤ c) && decide (c ≤ 57)
def biD : BI → List D → Option D
  | .len, [.str s] => if s.length ≤ LIM then some (.int s.length) else none
  | .len, [.tup xs] => some (.int xs.length)
  | .len, [.lst xs] => some (.int xs.length)
  | .int, [.int i] => some (.int i)
  | .int, [.bl b] => some (.int (b2i b))
  | .int, [.str s] => if s.all isDg && !s.isEmpty && decide (s.length ≤ 640) then some (.int (digV s : Nat)) else none
  | .abs, [.int i] => some (.int (if i < 0 then -i else i))
  | .gcd, [.int a, .int b] => some (.int (Nat.gcd a.natAbs b.natAbs : Nat))
  | .max2, [.int i, .int j] => some (.int (if j > i then j else i))
  | .min2, [.int i, .int j] => some (.int (if j < i then j else i))
  | .str, [.int i] => if i.natAbs.log2 < 1920 then some (.str (strI i)) else none
  | .str, [.str s] => some (.str s)
  | .sum, [.lst ds] => (intsD ds).map fun ns => .int ns.sum
  | _, _ => none

/-- a slice's bound as a place among n (d where it is left out) -/
def sx (n d : Nat) : Option Int → Nat
  | none => d
  | some v => if v < 0 then (v + (n : Int)).toNat else min v.toNat n
def cutD {α : Type} (xs : List α) (lo hi : Option Int) : List α := (xs.drop (sx xs.length 0 lo)).take (sx xs.length xs.length hi - sx xs.length 0 lo)
/-! ### the evaluator -/
/-- kept: only what is its own -/
def share (o : Out EV) (f : Nat → D → S → Out EV) : Out EV := o.bind fun e s => match e with
  | .own k d => f k d s
  | .bor _ _ => .err
def lift (o : Option D) (s : S) : Out EV := match o with
  | some d => .ok (.own 0 d) s
  | none => .err
def liftB (o : Option Bool) (s : S) : Out EV := match o with
  | some b => .ok (.own 0 (.bl b)) s
  | none => .err
/-- may it be handed on for good? -/
def EV.free : EV → Bool
  | .own _ _ => true
  | .bor k d => scal d || k == 0
/-- may its items be taken for good? -/
def EV.sees : EV → Bool
  | .own _ _ => true
  | .bor k _ => decide (k ≤ 1)
/-- an item of depth j fits into a place of depth k -/
def fit (k j : Nat) (d : D) : Bool := scal d || k == 0 || k == j
def EV.fit (k : Nat) : EV → Bool
  | .own j d => BT.fit k j d
  | .bor _ d => scal d

mutual
def evalE (C : Nat → List D → Sto → CR) : CE → S → Out EV
  | .non, s => .ok (.own 0 .non) s
  | .bl b, s => .ok (.own 0 (.bl b)) s
  | .int i, s => .ok (.own 0 (.int i)) s
  | .str x, s => .ok (.own 0 (.str x)) s
  | .var i, s => match s.env[i]? with
    | some (some (_, d)) => .ok (.own 0 d) { s with env := s.env.set i (some (0, d)) }
    | _ => .err
  | .bor i, s => match s.env[i]? with
    | some (some (k, d)) => .ok (.bor k d) s
    | _ => .err
  | .mv i, s => match s.env[i]? with
    | some (some (k, d)) => .ok (.own k d) { s with env := s.env.set i none }
    | _ => .err
  | .bin op a b, s => (evalE C a s).bind fun x s1 => (evalE C b s1).bind fun y s2 => lift (binop op x.d y.d) s2
  | .neg a, s => (evalE C a s).bind fun x s1 => match x.d with
    | .int i => .ok (.own 0 (.int (-i))) s1
    | _ => .err
  | .cmp op a b, s => (evalE C a s).bind fun x s1 => (evalE C b s1).bind fun y s2 => liftB (cmpop op x.d y.d) s2
  | .chn o1 o2 a b c, s => (evalE C a s).bind fun x s1 => (evalE C b s1).bind fun y s2 => match cmpop o1 x.d y.d with
    | some true => (evalE C c s2).bind fun z s3 => liftB (cmpop o2 y.d z.d) s3
    | some false => .ok (.own 0 (.bl false)) s2
    | none => .err
  | .and a b, s => (evalE C a s).bind fun x s1 => match truth x.d with
    | some true => evalE C b s1
    | some false => .ok x s1
    | none => .err
  | .or a b, s => (evalE C a s).bind fun x s1 => match truth x.d with
    | some true => .ok x s1
    | some false => evalE C b s1
    | none => .err
  | .not a, s => (evalE C a s).bind fun x s1 => liftB ((truth x.d).map (!·)) s1
  | .ife c a b, s => (evalE C c s).bind fun x s1 => match truth x.d with
    | some true => evalE C a s1
    | some false => evalE C b s1
    | none => .err
  | .tup k es, s => (evalEs C es s).bind fun xs s1 => match k with
    | 0 => .err
    | k + 1 => if xs.all (EV.fit k) && decide (xs.length ≤ LIM) then .ok (.own (k + 1) (.tup (xs.map EV.d))) s1 else .err
  | .lst k es, s => (evalEs C es s).bind fun xs s1 => match k with
    | 0 => .err
    | k + 1 => if xs.all (EV.fit k) && decide (xs.length ≤ LIM) then .ok (.own (k + 1) (.lst (xs.map EV.d))) s1 else .err
  | .idx a i, s => (evalE C a s).bind fun x s1 => (evalE C i s1).bind fun y s2 => match idxD x.d y.d with
    | some d => if scal d then .ok (.own 0 d) s2 else match x with
      | .own k _ => .ok (.own (k - 1) d) s2
      | .bor k _ => if k ≤ 1 then .ok (.own 0 d) s2 else .ok (.bor (k - 1) d) s2
    | none => .err
  | .call f es, s => (evalEs C es s).bind fun xs s1 => if xs.all EV.free then (match C f (xs.map EV.d) s1.sto with
    | .ok k d sto => .ok (.own k d) { s1 with sto := sto }
    | .exc x sto => .exc x { s1 with sto := sto }
    | .err => .err) else if xs.all (fun e => plain e.d) then (match C f (xs.map EV.d) [] with
    | .ok k d _ => if noL d then .ok (.own 0 d) s1 else (match k, d with
      | 1, .lst ds => if noLL ds then .ok (.own 1 (.lst ds)) s1 else .err
      | _, _ => .err)
    | _ => .err) else .err
  | .bi f es, s => (evalEs C es s).bind fun xs s1 => lift (biD f (xs.map EV.d)) s1
  | .isi t a, s => (evalE C a s).bind fun x s1 => liftB (isiD t x.d) s1
  | .lof a, s => (evalE C a s).bind fun x s1 => match x.d with
    | .lst ds => if x.sees then .ok (.own 1 (.lst ds)) s1 else .err
    | .tup ds => if x.sees then .ok (.own 1 (.lst ds)) s1 else .err
    | _ => .err
  | .tof a, s => (evalE C a s).bind fun x s1 => match x.d with
    | .lst ds => if x.sees then .ok (.own 0 (.tup ds)) s1 else .err
    | .tup ds => if x.sees then .ok (.own 0 (.tup ds)) s1 else .err
    | _ => .err
  | .sl a lo hi, s => (evalE C a s).bind fun x s1 => (evalO C lo s1).bind fun l s2 => (evalO C hi s2).bind fun u s3 => match x.d with
    | .str t => if t.length ≤ LIM then .ok (.own 0 (.str (cutD t l u))) s3 else .err
    | .lst ds => if x.sees then .ok (.own 1 (.lst (cutD ds l u))) s3 else .err
    | .tup ds => if x.sees then .ok (.own 0 (.tup (cutD ds l u))) s3 else .err
    | _ => .err
  | .xf i tab, s => match s.env[i]? with
    | some (some (_, .exn c fs)) => (match tab.lookup c with
      | some j => (match fs[j]? with
        | some d => if scal d then .ok (.own 0 d) s else .err
        | none => .err)
      | none => .err)
    | _ => .err
  | .xis i cs, s => match s.env[i]? with
    | some (some (_, .exn c _)) => .ok (.own 0 (.bl (cs.contains c))) s
    | _ => .err
  | .cat a b, s => (evalE C a s).bind fun x s1 => (evalE C b s1).bind fun y s2 => match x.d, y.d with
    | .lst xs, .lst ys => if x.sees && (y.sees && decide (xs.length + ys.length ≤ LIM)) then .ok (.own 1 (.lst (xs ++ ys))) s2 else .err
    | .tup xs, .tup ys => if x.sees && (y.sees && decide (xs.length + ys.length ≤ LIM)) then .ok (.own 0 (.tup (xs ++ ys))) s2 else .err
    | a, b => lift (binop .add a b) s2
def evalO (C : Nat → List D → Sto → CR) : CO → S → Out (Option Int)
  | .non, s => .ok none s
  | .som e, s => (evalE C e s).bind fun x s1 => match x.d with
    | .int i => .ok (some i) s1
    | _ => .err
def evalEs (C : Nat → List D → Sto → CR) : CEs → S → Out (List EV)
  | .nil, s => .ok [] s
  | .cons e es, s => (evalE C e s).bind fun x s1 => (evalEs C es s1).bind fun xs s2 => .ok (x :: xs) s2
end

/-- a test -/
def evalT (C : Nat → List D → Sto → CR) (c : CE) (s : S) : Out Bool := (evalE C c s).bind fun x s1 => match truth x.d with
  | some b => .ok b s1
  | none => .err

/-- a value into targets -/
def assign : Tg → Nat → D → S → Option S
  | .name i, k, d, s => if i < s.env.length then some { s with env := s.env.set i (some (k, d)) } else none
  | .tup is, k, .tup ds, s => if is.length = ds.length ∧ is.all (· < s.env.length) then some { s with env := (is.zip ds).foldl (fun env p => env.set p.1 (some (k - 1, p.2))) s.env } else none
  | .tup _, _, _, _ => none

/-- the items with their numbers -/
def enumD : Nat → List D → List D
  | _, [] => []
  | i, d :: ds => .tup [.int (i : Int), d] :: enumD (i + 1) ds
/-- the items that a for walks -/
def evalI (C : Nat → List D → Sto → CR) : CI → S → Out (List D)
  | .val e, s => (evalE C e s).bind fun x s1 => match x with
    | .own _ (.lst xs) => .ok xs s1
    | .own _ (.tup xs) => .ok xs s1
    | .own _ (.str t) => .ok (t.map fun c => .str [c]) s1
    | _ => .err
  | .range1 a, s => (evalE C a s).bind fun x s1 => match x.d with
    | .int n => if n < 4611686018427387904 ∧ -4611686018427387904 ≤ n then .ok ((List.range n.toNat).map fun (i : Nat) => .int (i : Int)) s1 else .err
    | _ => .err
  | .range2 a b, s => (evalEs C (.cons a (.cons b .nil)) s).bind fun xs s1 => match xs with
    | [x, y] => (match x.d, y.d with
      | .int m, .int n => if (n < 4611686018427387904 ∧ -4611686018427387904 ≤ n) ∧ (m < 4611686018427387904 ∧ -4611686018427387904 ≤ m) then .ok ((List.range (n - m).toNat).map fun (i : Nat) => .int (m + (i : Int))) s1 else .err
      | _, _ => .err)
    | _ => .err
  | .enum e, s => (evalE C e s).bind fun x s1 => match x with
    | .own _ (.lst xs) => .ok (enumD 0 xs) s1
    | _ => .err

/-- the turns of a for -/
def forL (step : D → S → Fl) : List D → S → Fl
  | [], s => .next s
  | d :: ds, s => match step d s with
    | .next s' => forL step ds s'
    | .cont s' => forL step ds s'
    | .brk s' => .next s'
    | r => r
/-- the turns of a while -/
def whileL (test : S → Out Bool) (body : S → Fl) : Nat → S → Fl
  | 0, _ => .err
  | n + 1, s => match test s with
    | .ok true s1 => match body s1 with
      | .next s' => whileL test body n s'
      | .cont s' => whileL test body n s'
      | .brk s' => .next s'
      | r => r
    | .ok false s1 => .next s1
    | .exc x s1 => .exc x s1
    | .err => .err
def Out.fl {α : Type} (o : Out α) (f : α → S → Fl) : Fl := match o with
  | .ok a s => f a s
  | .exc x s => .exc x s
  | .err => .err
def optFl (o : Option S) : Fl := match o with
  | some s => .next s
  | none => .err

/-- no calls while an exception is handled -/
def noC : Nat → List D → Sto → CR := fun _ _ _ => .err
/-- an except suite's end: its name goes -/
def S.outX (i : Option Nat) (s : S) : S := match i with
  | some j => { s with env := s.env.set j none }
  | none => s
def S.noX (s : S) : Bool := noXE s.env && noXS s.sto
def Fl.outX : Option Nat → Fl → Fl
  | none, .exc _ _ => .err
  | none, f => f
  | some j, .next s => if (s.outX (some j)).noX then .next (s.outX (some j)) else .err
  | some j, .brk s => if (s.outX (some j)).noX then .brk (s.outX (some j)) else .err
  | some j, .cont s => if (s.outX (some j)).noX then .cont (s.outX (some j)) else .err
  | some _, .ret k d sto => if BT.noX d && noXS sto then .ret k d sto else .err
  | some _, _ => .err
/-- what an exception's field may hold -/
def okF : D → Bool
  | .int i => decide (i.natAbs.log2 < 1920)
  | .str s => decide (s.length ≤ 10000)
  | _ => false

mutual
def evalS (C : Nat → List D → Sto → CR) (W : Nat) : CS → S → Fl
  | .pass, s => .next s
  | .brk, s => .brk s
  | .cont, s => .cont s
  | .ret e, s => (evalE C e s).fl fun x s1 => match x with
    | .own k d => .ret k d s1.sto
    | .bor _ d => if scal d then .ret 0 d s1.sto else .err
  | .retN, s => .ret 0 .non s.sto
  | .expr e, s => (evalE C e s).fl fun _ s1 => .next s1
  | .asg t e, s => (evalE C e s).fl fun x s1 => match x with
    | .own k d => optFl (assign t k d s1)
    | .bor _ d => if scal d then optFl (assign t 0 d s1) else .err
  | .par i j a b, s => (evalEs C (.cons a (.cons b .nil)) s).fl fun xs s2 => match xs with
    | [.own k d, .own l e] => if i < s2.env.length ∧ j < s2.env.length then .next { s2 with env := (s2.env.set i (some (k, d))).set j (some (l, e)) } else .err
    | _ => .err
  | .par3 i j l a b c, s => (evalEs C (.cons a (.cons b (.cons c .nil))) s).fl fun xs s2 => match xs with
    | [.own 0 d0, .own 0 d1, .own 0 d2] => if i < s2.env.length ∧ j < s2.env.length ∧ l < s2.env.length then .next { s2 with env := ((s2.env.set i (some (0, d0))).set j (some (0, d1))).set l (some (0, d2)) } else .err
    | _ => .err
  | .aug i op e, s => match s.env[i]? with
    | some (some (_, x)) => if scal x then (evalE C e s).fl fun y s1 => match augop op x y.d with
      | some z => if i < s1.env.length then .next { s1 with env := s1.env.set i (some (0, z)) } else .err
      | none => .err
      else .err
    | _ => .err
  | .app i e, s => match s.env[i]? with
    | some (some (_, .lst _)) => (evalE C e s).fl fun x s1 => match s1.env[i]? with
      | some (some (k + 1, .lst xs)) => if x.fit k && decide (xs.length < LIM) then .next { s1 with env := s1.env.set i (some (k + 1, .lst (xs ++ [x.d]))) } else .err
      | _ => .err
    | _ => .err
  | .pop i, s => match s.env[i]? with
    | some (some (k + 1, .lst xs)) => if xs.isEmpty then .err else .next { s with env := s.env.set i (some (k + 1, .lst xs.dropLast)) }
    | _ => .err
  | .popA i j, s => match s.env[j]? with
    | some (some (k + 1, .lst xs)) => (match xs.getLast? with
      | some d => if i < s.env.length ∧ i ≠ j then .next { s with env := (s.env.set j (some (k + 1, .lst xs.dropLast))).set i (some (0, d)) } else .err
      | none => .err)
    | _ => .err
  | .appL i e, s => match s.env[i]? with
    | some (some (2, .lst xs0)) => (match xs0.getLast? with
      | some (.lst _) => (evalE C e s).fl fun x s1 => (match s1.env[i]? with
        | some (some (2, .lst xs)) => (match xs.getLast? with
          | some (.lst ys) => if x.fit 0 && decide (ys.length < LIM) then .next { s1 with env := s1.env.set i (some (2, .lst (xs.dropLast ++ [.lst (ys ++ [x.d])]))) } else .err
          | _ => .err)
        | _ => .err)
      | _ => .err)
    | _ => .err
  | .rai c n es, s => (evalEs C es s).fl fun xs s1 => if xs.all (fun e => okF e.d) && decide (xs.length = n) then .exc ⟨c, xs.map EV.d⟩ s1 else .err
  | .tri b cs i u, s => match evalSs C W b s with
    | .exc x s1 => if cs.contains x.cls then (match i with
      | some j => if j < s1.env.length then Fl.outX (some j) (evalSs (noC) W u { s1 with env := s1.env.set j (some (0, .exn x.cls x.fs)) }) else .err
      | none => Fl.outX none (evalSs (noC) W u s1)) else .exc x s1
    | r => r
  | .setI i ix e, s => match s.env[i]? with
    | some (some (_, .lst _)) => (evalE C e s).fl fun x s1 => (evalE C ix s1).fl fun y s2 => match s2.env[i]? with
      | some (some (k + 1, .lst xs)) => (match y.d with
        | .int n => if x.fit k then (match BT.ixN xs.length n with
          | some m => .next { s2 with env := s2.env.set i (some (k + 1, .lst (xs.set m x.d))) }
          | none => .err) else .err
        | _ => .err)
      | _ => .err
    | _ => .err
  | .ifs c a b, s => (evalT C c s).fl fun t s1 => if t then evalSs C W a s1 else evalSs C W b s1
  | .for t it b, s => (evalI C it s).fl fun ds s1 => forL (fun d s2 => match assign t 0 d s2 with
    | some s3 => evalSs C W b s3
    | none => .err) ds s1
  | .whl c b, s => whileL (evalT C c) (evalSs C W b) W s
def evalSs (C : Nat → List D → Sto → CR) (W : Nat) : CSs → S → Fl
  | .nil, s => .next s
  | .cons a r, s => match evalS C W a s with
    | .next s' => evalSs C W r s'
    | f => f
end

/-- a def: the number of its slots (parameters first), its body -/
structure Fd where
  np : Nat
  ns : Nat
  body : CSs
/-- the end of a body as a call's end -/
def Fl.call : Fl → CR
  | .next s => .ok 0 .non s.sto
  | .ret k d s => .ok k d s
  | .exc x s => .exc x s.sto
  | _ => .err
/-- a call, n deep at most -/
def callF (T : Nat → Option Fd) (W : Nat) : Nat → Nat → List D → Sto → CR
  | 0, _, _, _ => .err
  | n + 1, f, ds, sto => match T f with
    | none => .err
    | some fd => if ds.length = fd.np ∧ fd.np ≤ fd.ns then
        (evalSs (callF T W n) W fd.body { env := (ds.map fun d => some (0, d)) ++ List.replicate (fd.ns - fd.np) none, sto := sto }).call
      else .err
end BT
end

section
/-! BtRep: what stands for what: data and the layer's values and heaps. -/
namespace BT
open PySem PySem.Spec L2
open PyProof.Rows hiding St
set_option autoImplicit false

/-- what the text's top has: the written part, the classes' addresses and fields -/
structure Tb where
  K : PySem.W.Frag
  cls : Nat → Option (Addr × List PySem.Str)
  exc : Nat → Option (Value × List PySem.Str)
  xo : Option (Addr × Value × Option Addr) := none
/-- .. while an exception is handled: its address, its class, its dict -/
def Tb.wx (T : Tb) (o : Option (Addr × Value × Option Addr)) : Tb := { T with xo := o }

/-- the heap without what somebody owns -/
noncomputable def hid (H : Hp) (P : Addr → Prop) : Hp := fun a => open Classical in if P a then none else H a
theorem hid_at {H : Hp} {P : Addr → Prop} {a : Addr} (h : ¬ P a) : hid H P a = H a := by unfold hid; rw [if_neg h]
theorem hid_no {H : Hp} {P : Addr → Prop} {a : Addr} (h : P a) : hid H P a = none := by unfold hid; rw [if_pos h]
theorem hid_some {H : Hp} {P : Addr → Prop} {a : Addr} {o : HO} (h : hid H P a = some o) : ¬ P a ∧ H a = some o := by
  by_cases p : P a
  · rw [hid_no p] at h; cases h
  · rw [hid_at p] at h; exact ⟨p, h⟩
theorem hid_le {H : Hp} {P : Addr → Prop} : Same (hid H P) H := fun a o h => (hid_some h).2
theorem hid_mono {H H' : Hp} {P P' : Addr → Prop} (hp : ∀ a o, H a = some o → ¬ P a → ¬ P' a ∧ H' a = some o) : Same (hid H P) (hid H' P') := fun a o h => by
  obtain ⟨p, e⟩ := hid_some h
  obtain ⟨p', e'⟩ := hp a o e p
  rw [hid_at p']; exact e'
theorem hid_less {H : Hp} {P P' : Addr → Prop} (hp : ∀ a, P' a → P a) : Same (hid H P) (hid H P') := hid_mono fun a o e p => ⟨fun q => p (hp a q), e⟩

theorem same_rd {H H' : Hp} {a : Addr} {u : HO} (e : Same H H') (h : Rd H a u) : Rd H' a u := by
  rcases h with h | ⟨o, h⟩
  · exact .inl (e a _ h)
  · exact .inr ⟨o, e a _ h⟩
theorem same_t {K : PySem.W.Frag} {H H' : Hp} {a : Addr} {xs : List V} (e : Same H H') (h : SqT K H a xs) : SqT K H' a xs := by
  rcases h with h | h
  · exact .inl (same_rd e h)
  · exact .inr h
theorem same_l {K : PySem.W.Frag} {H H' : Hp} {a : Addr} {xs : List V} (e : Same H H') (h : SqL K H a xs) : SqL K H' a xs := by
  rcases h with h | h
  · exact .inl (same_rd e h)
  · exact .inr h

/-- a text's value -/
abbrev sv (s : List Nat) : PySem.Str := ⟨s.toArray⟩

section
variable (T : Tb) (ρ : List Addr) (Φ : Hp)
mutual
/-- frozen data -/
inductive Rp : D → V → Prop where
  | non : Rp .non .non
  | bl (b : Bool) : Rp (.bl b) (.bl b)
  | int (i : Int) : Rp (.int i) (.int i)
  | str (s : List Nat) : s.all (· < 1114112) = true → Rp (.str s) (.str (sv s))
  | tup {ds : List D} {a : Addr} {vs : List V} : SqT T.K Φ a vs → RpL ds vs → Rp (.tup ds) (.ref a)
  | lst {ds : List D} {a : Addr} {vs : List V} : SqL T.K Φ a vs → RpL ds vs → Rp (.lst ds) (.ref a)
  | obj {c : Nat} {ds : List D} {a C dx : Addr} {ns : List PySem.Str} {vs : List V} : T.cls c = some (C, ns) → ns.length = vs.length → Φ a = some (.ins C dx (ns.zip vs)) → RpL ds vs → Rp (.obj c ds) (.ref a)
  | loc {l : Nat} {a : Addr} : ρ[l]? = some a → Rp (.loc l) (.ref a)
  | exn {c : Nat} {ds : List D} {a : Addr} {cls : Value} {d : Option Addr} {ns : List PySem.Str} {vs : List V} : T.xo = some (a, cls, d) → T.exc c = some (cls, ns) → ns.length = vs.length → ns.Nodup →
      (ns = [] ∧ d = none ∨ ∃ dd, d = some dd ∧ Φ dd = some (.xd (ns.zip vs).reverse)) → RpL ds vs → Rp (.exn c ds) (.ref a)
inductive RpL : List D → List V → Prop where
  | nil : RpL [] []
  | cons {d : D} {v : V} {ds : List D} {vs : List V} : Rp d v → RpL ds vs → RpL (d :: ds) (v :: vs)
end
end
section
variable {T : Tb} {ρ ρ' : List Addr} {Φ Φ' : Hp}
mutual
theorem Rp.mono (e : Same Φ Φ') (p : ρ <+: ρ') : ∀ {d : D} {v : V}, Rp T ρ Φ d v → Rp T ρ' Φ' d v
  | _, _, .non => .non
  | _, _, .bl b => .bl b
  | _, _, .int i => .int i
  | _, _, .str s h => .str s h
  | _, _, .tup h l => .tup (same_t e h) (RpL.mono e p l)
  | _, _, .lst h l => .lst (same_l e h) (RpL.mono e p l)
  | _, _, .obj h n x l => .obj h n (e _ _ x) (RpL.mono e p l)
  | _, _, .exn h1 h2 h3 h4 h5 l => .exn h1 h2 h3 h4 (h5.imp id fun ⟨dd, q1, q2⟩ => ⟨dd, q1, e _ _ q2⟩) (RpL.mono e p l)
  | _, _, .loc h => .loc (by obtain ⟨t, rfl⟩ := p; rw [List.getElem?_append_left (List.getElem?_eq_some_iff.mp h).1]; exact h)
theorem RpL.mono (e : Same Φ Φ') (p : ρ <+: ρ') : ∀ {ds : List D} {vs : List V}, RpL T ρ Φ ds vs → RpL T ρ' Φ' ds vs
  | _, _, .nil => .nil
  | _, _, .cons h l => .cons (Rp.mono e p h) (RpL.mono e p l)
end
theorem RpL.len : ∀ {ds : List D} {vs : List V}, RpL T ρ Φ ds vs → ds.length = vs.length
  | _, _, .nil => rfl
  | _, _, .cons _ l => by rw [List.length_cons, List.length_cons, RpL.len l]
theorem RpL.get : ∀ {ds : List D} {vs : List V} {i : Nat} {d : D}, RpL T ρ Φ ds vs → ds[i]? = some d → ∃ v, vs[i]? = some v ∧ Rp T ρ Φ d v
  | _, _, _, _, .nil, e => by simp at e
  | _, _, 0, d, .cons h _, e => by simp at e; subst e; exact ⟨_, rfl, h⟩
  | _, _, i + 1, d, .cons _ l, e => by
    obtain ⟨v, h1, h2⟩ := RpL.get (i := i) l (by simpa using e)
    exact ⟨v, by simpa using h1, h2⟩
theorem RpL.app : ∀ {ds es : List D} {vs ws : List V}, RpL T ρ Φ ds vs → RpL T ρ Φ es ws → RpL T ρ Φ (ds ++ es) (vs ++ ws)
  | _, _, _, _, .nil, q => q
  | _, _, _, _, .cons h l, q => .cons h (RpL.app l q)
theorem RpL.set {d : D} {v : V} (r : Rp T ρ Φ d v) : ∀ {ds : List D} {vs : List V} (i : Nat), RpL T ρ Φ ds vs → RpL T ρ Φ (ds.set i d) (vs.set i v)
  | _, _, _, .nil => .nil
  | _, _, 0, .cons _ t => .cons r t
  | _, _, i + 1, .cons q t => .cons q (RpL.set r i t)
/-- scalars ask nothing of the heap -/
theorem Rp.scal {Φ2 : Hp} {d : D} {v : V} (h : Rp T ρ Φ d v) (s : scal d = true) : Rp T ρ Φ2 d v := by
  cases h with
  | non => exact .non
  | bl b => exact .bl b
  | int i => exact .int i
  | str x h => exact .str x h
  | tup _ _ => cases s
  | lst _ _ => cases s
  | obj _ _ _ _ => cases s
  | exn _ _ _ _ _ _ => cases s
  | loc h => exact .loc h
theorem Rp.int' {i : Int} {v : V} (h : Rp T ρ Φ (.int i) v) : v = .int i := by cases h; rfl
theorem Rp.bl' {b : Bool} {v : V} (h : Rp T ρ Φ (.bl b) v) : v = .bl b := by cases h; rfl
theorem Rp.non' {v : V} (h : Rp T ρ Φ .non v) : v = .non := by cases h; rfl
theorem Rp.str' {s : List Nat} {v : V} (h : Rp T ρ Φ (.str s) v) : v = .str (sv s) := by cases h; rfl
theorem Rp.tup' {ds : List D} {v : V} (h : Rp T ρ Φ (.tup ds) v) : ∃ a vs, v = .ref a ∧ SqT T.K Φ a vs ∧ RpL T ρ Φ ds vs := by cases h with | tup h l => exact ⟨_, _, rfl, h, l⟩
theorem Rp.lst' {ds : List D} {v : V} (h : Rp T ρ Φ (.lst ds) v) : ∃ a vs, v = .ref a ∧ SqL T.K Φ a vs ∧ RpL T ρ Φ ds vs := by cases h with | lst h l => exact ⟨_, _, rfl, h, l⟩
end

/-! ### another exception is handled -/
section
variable {T T' : Tb} {ρ : List Addr} {Φ : Hp}
/-- the same text, and whatever is handled there is handled here -/
structure Tb.Le (T T' : Tb) : Prop where
  K : T'.K = T.K
  cls : T'.cls = T.cls
  exc : T'.exc = T.exc
theorem Tb.Le.wx (T : Tb) (o : Option (Addr × Value × Option Addr)) : T.Le (T.wx o) := ⟨rfl, rfl, rfl⟩
theorem Tb.Le.symm (h : T.Le T') : T'.Le T := ⟨h.K.symm, h.cls.symm, h.exc.symm⟩
mutual
theorem Rp.conv (e : T.Le T') : ∀ {d : D} {v : V}, (T.xo = none ∨ noX d = true) → Rp T ρ Φ d v → Rp T' ρ Φ d v
  | _, _, _, .non => .non
  | _, _, _, .bl b => .bl b
  | _, _, _, .int i => .int i
  | _, _, _, .str s h => .str s h
  | _, _, x, .tup h l => .tup (by rw [e.K]; exact h) (RpL.conv e (x.imp id fun q => by simpa [noX] using q) l)
  | _, _, x, .lst h l => .lst (by rw [e.K]; exact h) (RpL.conv e (x.imp id fun q => by simpa [noX] using q) l)
  | _, _, x, .obj h1 h2 h3 l => .obj (by rw [e.cls]; exact h1) h2 h3 (RpL.conv e (x.imp id fun q => by simpa [noX] using q) l)
  | _, _, x, .exn h1 h2 h3 h4 h5 l => x.elim (fun q => by rw [q] at h1; cases h1) fun q => by simp [noX] at q
  | _, _, _, .loc h => .loc h
theorem RpL.conv (e : T.Le T') : ∀ {ds : List D} {vs : List V}, (T.xo = none ∨ noXL ds = true) → RpL T ρ Φ ds vs → RpL T' ρ Φ ds vs
  | _, _, _, .nil => .nil
  | _, _, x, .cons h l => .cons (Rp.conv e (x.imp id fun q => by simp only [noXL, Bool.and_eq_true] at q; exact q.1) h) (RpL.conv e (x.imp id fun q => by simp only [noXL, Bool.and_eq_true] at q; exact q.2) l)
end
end

/-! ### what may be changed -/
section
variable (T : Tb) (ρ : List Addr) (Φ H : Hp)
mutual
/-- d stands at v, changeable k deep; the addresses that this owns -/
inductive RpK : Nat → D → V → List Addr → Prop where
  | sc {k : Nat} {d : D} {v : V} : scal d = true → Rp T ρ Φ d v → RpK k d v []
  | frz {d : D} {v : V} : Rp T ρ Φ d v → RpK 0 d v []
  | tup {k : Nat} {ds : List D} {a : Addr} {vs : List V} {o : List Addr} : SqT T.K Φ a vs → RpKL k ds vs o → RpK (k + 1) (.tup ds) (.ref a) o
  | lst {k : Nat} {ds : List D} {a : Addr} {vs : List V} {o : List Addr} : H a = some (.lst vs) → RpKL k ds vs o → RpK (k + 1) (.lst ds) (.ref a) (a :: o)
inductive RpKL : Nat → List D → List V → List Addr → Prop where
  | nil {k : Nat} : RpKL k [] [] []
  | cons {k : Nat} {d : D} {v : V} {ds : List D} {vs : List V} {o o' : List Addr} : RpK k d v o → RpKL k ds vs o' → RpKL k (d :: ds) (v :: vs) (o ++ o')
end
end
section
variable {T : Tb} {ρ ρ' : List Addr} {Φ Φ' H H' : Hp}
mutual
theorem RpK.mono (e : Same Φ Φ') (p : ρ <+: ρ') : ∀ {k : Nat} {d : D} {v : V} {o : List Addr}, (∀ a ∈ o, ∀ u, H a = some u → H' a = some u) → RpK T ρ Φ H k d v o → RpK T ρ' Φ' H' k d v o
  | _, _, _, _, _, .sc s h => .sc s (h.mono e p)
  | _, _, _, _, _, .frz h => .frz (h.mono e p)
  | _, _, _, _, q, .tup h l => .tup (same_t e h) (RpKL.mono e p q l)
  | _, _, _, _, q, .lst h l => .lst (q _ List.mem_cons_self _ h) (RpKL.mono e p (fun a m => q a (List.mem_cons_of_mem _ m)) l)
theorem RpKL.mono (e : Same Φ Φ') (p : ρ <+: ρ') : ∀ {k : Nat} {ds : List D} {vs : List V} {o : List Addr}, (∀ a ∈ o, ∀ u, H a = some u → H' a = some u) → RpKL T ρ Φ H k ds vs o → RpKL T ρ' Φ' H' k ds vs o
  | _, _, _, _, _, .nil => .nil
  | _, _, _, _, q, .cons h l => .cons (RpK.mono e p (fun a m => q a (List.mem_append_left _ m)) h) (RpKL.mono e p (fun a m => q a (List.mem_append_right _ m)) l)
end
mutual
/-- what is owned is given up: then it is frozen data of a heap that shows it -/
theorem RpK.freeze (e : Same Φ Φ') (p : ρ <+: ρ') : ∀ {k : Nat} {d : D} {v : V} {o : List Addr}, (∀ a ∈ o, ∀ u, H a = some u → Φ' a = some u) → RpK T ρ Φ H k d v o → Rp T ρ' Φ' d v
  | _, _, _, _, _, .sc s h => h.mono e p
  | _, _, _, _, _, .frz h => h.mono e p
  | _, _, _, _, q, .tup h l => .tup (same_t e h) (RpKL.freeze e p q l)
  | _, _, _, _, q, .lst h l => .lst (.inl (.inl (q _ List.mem_cons_self _ h))) (RpKL.freeze e p (fun a m => q a (List.mem_cons_of_mem _ m)) l)
theorem RpKL.freeze (e : Same Φ Φ') (p : ρ <+: ρ') : ∀ {k : Nat} {ds : List D} {vs : List V} {o : List Addr}, (∀ a ∈ o, ∀ u, H a = some u → Φ' a = some u) → RpKL T ρ Φ H k ds vs o → RpL T ρ' Φ' ds vs
  | _, _, _, _, _, .nil => .nil
  | _, _, _, _, q, .cons h l => .cons (RpK.freeze e p (fun a m => q a (List.mem_append_left _ m)) h) (RpKL.freeze e p (fun a m => q a (List.mem_append_right _ m)) l)
end
/-- seen -/
theorem RpK.see {k : Nat} {d : D} {v : V} {o : List Addr} (h : RpK T ρ Φ H k d v o) (e : Same Φ H) : Rp T ρ H d v := h.freeze e (List.prefix_refl _) fun _ _ _ q => q
mutual
theorem RpK.there : ∀ {k : Nat} {d : D} {v : V} {o : List Addr}, RpK T ρ Φ H k d v o → ∀ a ∈ o, ∃ vs, H a = some (.lst vs)
  | _, _, _, _, .sc _ _, a, m => by simp at m
  | _, _, _, _, .frz _, a, m => by simp at m
  | _, _, _, _, .tup _ l, a, m => RpKL.there l a m
  | _, _, _, _, .lst h l, a, m => by
    rcases List.mem_cons.mp m with rfl | m
    · exact ⟨_, h⟩
    · exact RpKL.there l a m
theorem RpKL.there : ∀ {k : Nat} {ds : List D} {vs : List V} {o : List Addr}, RpKL T ρ Φ H k ds vs o → ∀ a ∈ o, ∃ vs, H a = some (.lst vs)
  | _, _, _, _, .nil, a, m => by simp at m
  | _, _, _, _, .cons h l, a, m => by
    rcases List.mem_append.mp m with m | m
    · exact RpK.there h a m
    · exact RpKL.there l a m
end
theorem RpKL.len : ∀ {k : Nat} {ds : List D} {vs : List V} {o : List Addr}, RpKL T ρ Φ H k ds vs o → ds.length = vs.length
  | _, _, _, _, .nil => rfl
  | _, _, _, _, .cons _ l => by rw [List.length_cons, List.length_cons, RpKL.len l]
/-- at depth 0 nothing is owned -/
theorem RpK.zero {d : D} {v : V} {o : List Addr} (h : RpK T ρ Φ H 0 d v o) : o = [] ∧ Rp T ρ Φ d v := by
  cases h with
  | sc s h => exact ⟨rfl, h⟩
  | frz h => exact ⟨rfl, h⟩
theorem RpK.scal {k : Nat} {d : D} {v : V} {o : List Addr} (h : RpK T ρ Φ H k d v o) (s : scal d = true) : o = [] ∧ Rp T ρ Φ d v := by
  cases h with
  | sc s h => exact ⟨rfl, h⟩
  | frz h => exact ⟨rfl, h⟩
  | tup _ _ => cases s
  | lst _ _ => cases s
theorem RpK.ofScal {k : Nat} {d : D} {v : V} (h : Rp T ρ Φ d v) (s : BT.scal d = true) : RpK T ρ Φ H k d v [] := .sc s h
theorem RpKL.zero : ∀ {ds : List D} {vs : List V} {o : List Addr}, RpKL T ρ Φ H 0 ds vs o → o = [] ∧ RpL T ρ Φ ds vs
  | _, _, _, .nil => ⟨rfl, .nil⟩
  | _, _, _, .cons h l => by
    obtain ⟨rfl, h'⟩ := h.zero
    obtain ⟨rfl, l'⟩ := RpKL.zero l
    exact ⟨rfl, .cons h' l'⟩
theorem RpKL.ofL : ∀ {ds : List D} {vs : List V}, RpL T ρ Φ ds vs → RpKL T ρ Φ H 0 ds vs []
  | _, _, .nil => .nil
  | _, _, .cons h l => by
    have q := RpKL.cons (H := H) (.frz h) (RpKL.ofL l)
    simpa using q
theorem RpKL.get : ∀ {k : Nat} {ds : List D} {vs : List V} {o : List Addr} {i : Nat} {d : D}, RpKL T ρ Φ H k ds vs o → ds[i]? = some d → ∃ v o1, vs[i]? = some v ∧ RpK T ρ Φ H k d v o1 ∧ o1.Sublist o
  | _, _, _, _, _, _, .nil, e => by simp at e
  | _, _, _, _, 0, d, .cons h _, e => by simp at e; subst e; exact ⟨_, _, rfl, h, List.sublist_append_left _ _⟩
  | _, _, _, _, i + 1, d, .cons _ l, e => by
    obtain ⟨v, o1, h1, h2, h3⟩ := RpKL.get (i := i) l (by simpa using e)
    exact ⟨v, o1, by simpa using h1, h2, h3.trans (List.sublist_append_right _ _)⟩
theorem RpKL.app : ∀ {k : Nat} {ds es : List D} {vs ws : List V} {o p : List Addr}, RpKL T ρ Φ H k ds vs o → RpKL T ρ Φ H k es ws p → RpKL T ρ Φ H k (ds ++ es) (vs ++ ws) (o ++ p)
  | _, _, _, _, _, _, _, .nil, q => q
  | _, _, _, _, _, _, _, .cons h l, q => by
    rw [List.append_assoc]
    exact .cons h (RpKL.app l q)
/-- an item is exchanged -/
theorem RpKL.set {k : Nat} {d : D} {v : V} {o1 : List Addr} (r : RpK T ρ Φ H k d v o1) : ∀ {ds : List D} {vs : List V} {o : List Addr} (i : Nat), i < ds.length → RpKL T ρ Φ H k ds vs o →
    ∃ p q m, o = p ++ m ++ q ∧ RpKL T ρ Φ H k (ds.set i d) (vs.set i v) (p ++ o1 ++ q)
  | _, _, _, i, hi, .nil => by simp at hi
  | _, _, _, 0, _, .cons (o := a) (o' := b) _ t => ⟨[], b, a, by simp, by simpa using RpKL.cons r t⟩
  | _, _, _, i + 1, hi, .cons (o := a) (o' := b) q t => by
    obtain ⟨p, q', m, e, h⟩ := RpKL.set r i (by simpa using hi) t
    exact ⟨a ++ p, q', m, by rw [e]; simp [List.append_assoc], by
      have := RpKL.cons q h
      simpa [List.append_assoc] using this⟩
end
section
variable {T T' : Tb} {ρ : List Addr} {Φ H : Hp}
mutual
theorem RpK.conv (e : T.Le T') : ∀ {k : Nat} {d : D} {v : V} {o : List Addr}, (T.xo = none ∨ noX d = true) → RpK T ρ Φ H k d v o → RpK T' ρ Φ H k d v o
  | _, _, _, _, x, .sc s h => .sc s (h.conv e x)
  | _, _, _, _, x, .frz h => .frz (h.conv e x)
  | _, _, _, _, x, .tup h l => .tup (by rw [e.K]; exact h) (RpKL.conv e (x.imp id fun q => by simpa [noX] using q) l)
  | _, _, _, _, x, .lst h l => .lst h (RpKL.conv e (x.imp id fun q => by simpa [noX] using q) l)
theorem RpKL.conv (e : T.Le T') : ∀ {k : Nat} {ds : List D} {vs : List V} {o : List Addr}, (T.xo = none ∨ noXL ds = true) → RpKL T ρ Φ H k ds vs o → RpKL T' ρ Φ H k ds vs o
  | _, _, _, _, _, .nil => .nil
  | _, _, _, _, x, .cons h l => .cons (RpK.conv e (x.imp id fun q => by simp only [noXL, Bool.and_eq_true] at q; exact q.1) h) (RpKL.conv e (x.imp id fun q => by simp only [noXL, Bool.and_eq_true] at q; exact q.2) l)
end
end
end BT
end

section
/-! BtState: the state of the small language against the layer's slots and heap; what an evaluation may do to them. -/
namespace BT
open PySem PySem.Spec L2
open PyProof.Rows hiding St
set_option autoImplicit false

/-- owned: by somebody outside, or here -/
def Own (OX : Addr → Prop) (l : List Addr) : Addr → Prop := fun a => OX a ∨ a ∈ l
section
variable (T : Tb) (ρ : List Addr) (Φ H : Hp)
/-- the slots -/
inductive RpE : List (Option (Nat × D)) → St → List Addr → Prop where
  | nil : RpE [] [] []
  | no {x : Option V} {env : List (Option (Nat × D))} {σ : St} {o : List Addr} : RpE env σ o → RpE (none :: env) (x :: σ) o
  | yes {k : Nat} {d : D} {v : V} {env : List (Option (Nat × D))} {σ : St} {o1 o : List Addr} : RpK T ρ Φ H k d v o1 → RpE env σ o → RpE (some (k, d) :: env) (some v :: σ) (o1 ++ o)
/-- fields -/
inductive RpF : List (Nat × D) → List V → List Addr → Prop where
  | nil : RpF [] [] []
  | cons {k : Nat} {d : D} {v : V} {fs : List (Nat × D)} {vs : List V} {o1 o : List Addr} : RpK T ρ Φ H k d v o1 → RpF fs vs o → RpF ((k, d) :: fs) (v :: vs) (o1 ++ o)
/-- the store's cells -/
inductive RpS : Sto → List Addr → List Addr → Prop where
  | nil : RpS [] [] []
  | cons {c : Nat} {fs : List (Nat × D)} {a C dx : Addr} {ns : List PySem.Str} {vs : List V} {o1 o : List Addr} {sto : Sto} {as : List Addr} :
      T.cls c = some (C, ns) → ns.length = vs.length → H a = some (.ins C dx (ns.zip vs)) → RpF T ρ Φ H fs vs o1 → RpS sto as o → RpS ((c, fs) :: sto) (a :: as) (a :: (o1 ++ o))
end
section
variable {T : Tb} {ρ ρ' : List Addr} {Φ Φ' H H' : Hp}
theorem RpE.len : ∀ {env : List (Option (Nat × D))} {σ : St} {o : List Addr}, RpE T ρ Φ H env σ o → env.length = σ.length
  | _, _, _, .nil => rfl
  | _, _, _, .no q => by rw [List.length_cons, List.length_cons, RpE.len q]
  | _, _, _, .yes _ q => by rw [List.length_cons, List.length_cons, RpE.len q]
theorem RpE.mono (e : Same Φ Φ') (p : ρ <+: ρ') : ∀ {env : List (Option (Nat × D))} {σ : St} {o : List Addr}, (∀ a ∈ o, ∀ u, H a = some u → H' a = some u) → RpE T ρ Φ H env σ o → RpE T ρ' Φ' H' env σ o
  | _, _, _, _, .nil => .nil
  | _, _, _, q, .no r => .no (RpE.mono e p q r)
  | _, _, _, q, .yes h r => .yes (h.mono e p fun a m => q a (List.mem_append_left _ m)) (RpE.mono e p (fun a m => q a (List.mem_append_right _ m)) r)
theorem RpF.mono (e : Same Φ Φ') (p : ρ <+: ρ') : ∀ {fs : List (Nat × D)} {vs : List V} {o : List Addr}, (∀ a ∈ o, ∀ u, H a = some u → H' a = some u) → RpF T ρ Φ H fs vs o → RpF T ρ' Φ' H' fs vs o
  | _, _, _, _, .nil => .nil
  | _, _, _, q, .cons h r => .cons (h.mono e p fun a m => q a (List.mem_append_left _ m)) (RpF.mono e p (fun a m => q a (List.mem_append_right _ m)) r)
theorem RpS.mono (e : Same Φ Φ') (p : ρ <+: ρ') : ∀ {sto : Sto} {as : List Addr} {o : List Addr}, (∀ a ∈ o, ∀ u, H a = some u → H' a = some u) → RpS T ρ Φ H sto as o → RpS T ρ' Φ' H' sto as o
  | _, _, _, _, .nil => .nil
  | _, _, _, q, .cons h1 h2 h3 h4 r => .cons h1 h2 (q _ List.mem_cons_self _ h3) (h4.mono e p fun a m => q a (List.mem_cons_of_mem _ (List.mem_append_left _ m)))
      (RpS.mono e p (fun a m => q a (List.mem_cons_of_mem _ (List.mem_append_right _ m))) r)
/-- a slot's value, and the slot stored anew -/
theorem RpE.split : ∀ {env : List (Option (Nat × D))} {σ : St} {o : List Addr} {i k : Nat} {d : D}, RpE T ρ Φ H env σ o → env[i]? = some (some (k, d)) →
    ∃ v p m q, o = p ++ m ++ q ∧ σ[i]? = some (some v) ∧ RpK T ρ Φ H k d v m ∧
      (∀ {ρ' : List Addr} {Φ' H' : Hp}, Same Φ Φ' → ρ <+: ρ' → (∀ a ∈ p ++ q, ∀ u, H a = some u → H' a = some u) → ∀ k' d' v' m', RpK T ρ' Φ' H' k' d' v' m' → RpE T ρ' Φ' H' (env.set i (some (k', d'))) (σ.set i (some v')) (p ++ m' ++ q)) ∧
      (∀ {ρ' : List Addr} {Φ' H' : Hp}, Same Φ Φ' → ρ <+: ρ' → (∀ a ∈ p ++ q, ∀ u, H a = some u → H' a = some u) → RpE T ρ' Φ' H' (env.set i none) σ (p ++ q))
  | _, _, _, _, _, _, .nil, e => by simp at e
  | _, _, _, 0, _, _, .no _, e => by simp at e
  | _, _, _, 0, k, d, .yes (o1 := o1) (o := o) h r, e => by
    simp only [List.getElem?_cons_zero, Option.some.injEq, Prod.mk.injEq] at e
    obtain ⟨rfl, rfl⟩ := e
    exact ⟨_, [], o1, o, by simp, rfl, h, fun e' p' q' k' d' v' m' r' => by simpa using RpE.yes r' (r.mono e' p' fun a m => q' a (by simpa using m)), fun e' p' q' => by simpa using RpE.no (x := some _) (r.mono e' p' fun a m => q' a (by simpa using m))⟩
  | _, _, _, i + 1, k, d, .no r, e => by
    obtain ⟨v, p, m, q, h1, h2, h3, h4, h5⟩ := RpE.split (i := i) r (by simpa using e)
    exact ⟨v, p, m, q, h1, by simpa using h2, h3, fun e' p' q' k' d' v' m' r' => .no (h4 e' p' q' k' d' v' m' r'), fun e' p' q' => .no (h5 e' p' q')⟩
  | _, _, _, i + 1, k, d, .yes (o1 := o1) h r, e => by
    obtain ⟨v, p, m, q, h1, h2, h3, h4, h5⟩ := RpE.split (i := i) r (by simpa using e)
    refine ⟨v, o1 ++ p, m, q, by rw [h1]; simp [List.append_assoc], by simpa using h2, h3, fun e' p' q' k' d' v' m' r' => ?_, fun e' p' q' => ?_⟩
    · have z := RpE.yes (h.mono e' p' fun a ma => q' a (by simp [ma])) (h4 e' p' (fun a ma => q' a (by simp at ma ⊢; rcases ma with ma | ma <;> simp [ma])) k' d' v' m' r')
      simpa [List.append_assoc] using z
    · have z := RpE.yes (h.mono e' p' fun a ma => q' a (by simp [ma])) (h5 e' p' (fun a ma => q' a (by simp at ma ⊢; rcases ma with ma | ma <;> simp [ma])))
      simpa [List.append_assoc] using z
/-- a slot stored, whatever stood there -/
theorem RpE.put : ∀ {env : List (Option (Nat × D))} {σ : St} {o : List Addr} {i : Nat}, RpE T ρ Φ H env σ o → i < env.length →
    ∃ p m q, o = p ++ m ++ q ∧
      (∀ {ρ' : List Addr} {Φ' H' : Hp}, Same Φ Φ' → ρ <+: ρ' → (∀ a ∈ p ++ q, ∀ u, H a = some u → H' a = some u) → ∀ k' d' v' m', RpK T ρ' Φ' H' k' d' v' m' → RpE T ρ' Φ' H' (env.set i (some (k', d'))) (σ.set i (some v')) (p ++ m' ++ q))
  | _, _, _, _, .nil, e => by simp at e
  | _, _, _, 0, .no (o := o) r, _ => ⟨[], [], o, by simp, fun e' p' q' k' d' v' m' r' => by simpa using RpE.yes r' (r.mono e' p' fun a m => q' a (by simpa using m))⟩
  | _, _, _, 0, .yes (o1 := o1) (o := o) h r, _ => ⟨[], o1, o, by simp, fun e' p' q' k' d' v' m' r' => by simpa using RpE.yes r' (r.mono e' p' fun a m => q' a (by simpa using m))⟩
  | _, _, _, i + 1, .no r, e => by
    obtain ⟨p, m, q, h1, h4⟩ := RpE.put (i := i) r (by simpa using e)
    exact ⟨p, m, q, h1, fun e' p' q' k' d' v' m' r' => .no (h4 e' p' q' k' d' v' m' r')⟩
  | _, _, _, i + 1, .yes (o1 := o1) h r, e => by
    obtain ⟨p, m, q, h1, h4⟩ := RpE.put (i := i) r (by simpa using e)
    refine ⟨o1 ++ p, m, q, by rw [h1]; simp [List.append_assoc], fun e' p' q' k' d' v' m' r' => ?_⟩
    have z := RpE.yes (h.mono e' p' fun a ma => q' a (by simp [ma])) (h4 e' p' (fun a ma => q' a (by simp at ma ⊢; rcases ma with ma | ma <;> simp [ma])) k' d' v' m' r')
    simpa [List.append_assoc] using z
/-- the slots as they stand at a def's entry -/
theorem RpE.entry : ∀ {ds : List D} {vs : List V} (n : Nat), RpL T ρ Φ ds vs → RpE T ρ Φ H ((ds.map fun d => some (0, d)) ++ List.replicate n none) (vs.map some ++ List.replicate n none) []
  | _, _, 0, .nil => .nil
  | _, _, n + 1, .nil => by
    have q := RpE.entry n (RpL.nil (T := T) (ρ := ρ) (Φ := Φ))
    simpa [List.replicate_succ] using RpE.no (x := none) q
  | _, _, n, .cons h l => by
    have q := RpE.entry n l
    simpa using RpE.yes (.frz h) q
end

section
variable {T T' : Tb} {ρ : List Addr} {Φ H : Hp}
theorem RpE.conv (e : T.Le T') : ∀ {env : List (Option (Nat × D))} {σ : St} {o : List Addr}, (T.xo = none ∨ noXE env = true) → RpE T ρ Φ H env σ o → RpE T' ρ Φ H env σ o
  | _, _, _, _, .nil => .nil
  | _, _, _, x, .no r => .no (RpE.conv e (x.imp id fun q => by simpa [noXE] using q) r)
  | _, _, _, x, .yes h r => .yes (h.conv e (x.imp id fun q => by simp only [noXE, Bool.and_eq_true] at q; exact q.1)) (RpE.conv e (x.imp id fun q => by simp only [noXE, Bool.and_eq_true] at q; exact q.2) r)
theorem RpF.conv (e : T.Le T') : ∀ {fs : List (Nat × D)} {vs : List V} {o : List Addr}, (T.xo = none ∨ noXF fs = true) → RpF T ρ Φ H fs vs o → RpF T' ρ Φ H fs vs o
  | _, _, _, _, .nil => .nil
  | _, _, _, x, .cons h r => .cons (h.conv e (x.imp id fun q => by simp only [noXF, Bool.and_eq_true] at q; exact q.1)) (RpF.conv e (x.imp id fun q => by simp only [noXF, Bool.and_eq_true] at q; exact q.2) r)
theorem RpS.conv (e : T.Le T') : ∀ {sto : Sto} {as o : List Addr}, (T.xo = none ∨ noXS sto = true) → RpS T ρ Φ H sto as o → RpS T' ρ Φ H sto as o
  | _, _, _, _, .nil => .nil
  | _, _, _, x, .cons h1 h2 h3 h4 r => .cons (by rw [e.cls]; exact h1) h2 h3 (RpF.conv e (x.imp id fun q => by simp only [noXS, Bool.and_eq_true] at q; exact q.1) h4) (RpS.conv e (x.imp id fun q => by simp only [noXS, Bool.and_eq_true] at q; exact q.2) r)
/-- an empty slot may hold whatever it will -/
theorem RpE.empty {x : Option V} : ∀ {env : List (Option (Nat × D))} {σ : St} {o : List Addr} {i : Nat}, env[i]? = some none → RpE T ρ Φ H env σ o → RpE T ρ Φ H env (σ.set i x) o
  | _, _, _, _, _, .nil => .nil
  | _, _, _, 0, _, .no r => .no r
  | _, _, _, 0, e, .yes h r => by simp at e
  | _, _, _, i + 1, e, .no r => .no (RpE.empty (i := i) (by simpa using e) r)
  | _, _, _, i + 1, e, .yes h r => .yes h (RpE.empty (i := i) (by simpa using e) r)
theorem RpE.clear {Φ2 : Hp} : ∀ {env : List (Option (Nat × D))} {σ : St} {o : List Addr}, RpE T ρ Φ H env σ o → RpE T' ρ Φ2 H (env.map fun _ => none) σ []
  | _, _, _, .nil => .nil
  | _, _, _, .no r => .no (RpE.clear r)
  | _, _, _, .yes _ r => .no (RpE.clear r)
end
/-- tuples, and what is frozen: never owned -/
def isT : HO → Bool
  | .tup _ => true
  | .frz _ _ => true
  | _ => false
def Nt (H : Hp) (a : Addr) : Prop := ∃ u, H a = some u ∧ isT u = false
theorem Nt.ex {H : Hp} {a : Addr} (h : Nt H a) : ∃ u, H a = some u := h.imp fun _ q => q.1
theorem Nt.mono {H H' : Hp} (e : Same H H') {a : Addr} (h : Nt H a) : Nt H' a := h.imp fun u q => ⟨e a u q.1, q.2⟩
theorem Nt.lst {H : Hp} {a : Addr} (h : ∃ vs, H a = some (.lst vs)) : Nt H a := h.elim fun _ q => ⟨_, q, rfl⟩
/-- what an evaluation may do: own' what is owned behind it (the temporary one among it) -/
structure Adv (H : Hp) (own sown : List Addr) (H' : Hp) (own' sown' : List Addr) : Prop where
  same : ∀ a u, H a = some u → a ∉ sown → H' a = some u
  there : ∀ a u, H a = some u → ∃ u', H' a = some u'
  nt : ∀ a, Nt H a → Nt H' a
  sub : ∀ a ∈ own', a ∈ own ∨ H a = none
  ssub : ∀ a ∈ sown', a ∈ sown ∨ H a = none
theorem Adv.gone {H H' : Hp} {own sown own' sown' : List Addr} (A : Adv H own sown H' own' sown') {a : Addr} (h : H' a = none) : H a = none := by
  cases e : H a with
  | none => rfl
  | some u => obtain ⟨u', q⟩ := A.there a u e; rw [h] at q; cases q
theorem Adv.refl (H : Hp) (own sown : List Addr) : Adv H own sown H own sown := ⟨fun _ _ h _ => h, fun _ u h => ⟨u, h⟩, fun _ h => h, fun _ h => .inl h, fun _ h => .inl h⟩
theorem Adv.trans {H H1 H2 : Hp} {own sown own1 sown1 own2 sown2 : List Addr} (A : Adv H own sown H1 own1 sown1) (B : Adv H1 own1 sown1 H2 own2 sown2) : Adv H own sown H2 own2 sown2 where
  same := fun a u h n => by
    refine B.same a u (A.same a u h n) fun m => ?_
    rcases A.ssub a m with q | q
    · exact n q
    · rw [h] at q; cases q
  there := fun a u h => by
    obtain ⟨u', h'⟩ := A.there a u h
    exact B.there a u' h'
  nt := fun a h => B.nt a (A.nt a h)
  sub := fun a m => by
    rcases B.sub a m with q | q
    · exact A.sub a q
    · exact .inr (A.gone q)
  ssub := fun a m => by
    rcases B.ssub a m with q | q
    · exact A.ssub a q
    · exact .inr (A.gone q)
theorem Adv.less {H H' : Hp} {own sown own' sown' own'' : List Addr} (A : Adv H own sown H' own' sown') (h : ∀ a ∈ own'', a ∈ own') : Adv H own sown H' own'' sown' := ⟨A.same, A.there, A.nt, fun a m => A.sub a (h a m), A.ssub⟩

/-- the state s of the small language stands at the slots σ and the heap H; H0: the heap at the def's entry -/
structure Rst (T : Tb) (OX : Addr → Prop) (H0 : Hp) (so0 ρ : List Addr) (H : Hp) (s : S) (σ : St) (own sown : List Addr) : Prop where
  same : ∀ a u, H0 a = some u → a ∉ so0 → H a = some u
  there : ∀ a u, H0 a = some u → ∃ u', H a = some u'
  nt : ∀ a, Nt H0 a → Nt H a
  env : RpE T ρ (hid H (Own OX (own ++ sown))) H s.env σ own
  sto : RpS T ρ (hid H (Own OX (own ++ sown))) H s.sto ρ sown
  nd : (own ++ sown).Nodup
  new : ∀ a ∈ own, H0 a = none
  snew : ∀ a ∈ sown, a ∈ so0 ∨ H0 a = none
  ox : ∀ a ∈ own ++ sown, ¬ OX a
  oxH : ∀ a, OX a → Nt H a
section
variable {T : Tb} {OX OX' : Addr → Prop} {H0 H H' : Hp} {so0 ρ ρ' own sown own' sown' : List Addr} {s : S} {σ : St}
theorem Rst.gone0 (R : Rst T OX H0 so0 ρ H s σ own sown) {a : Addr} (h : H a = none) : H0 a = none := by
  cases e : H0 a with
  | none => rfl
  | some u => obtain ⟨u', q⟩ := R.there a u e; rw [h] at q; cases q
/-- fewer that own from outside -/
theorem Rst.weak (R : Rst T OX H0 so0 ρ H s σ own sown) (h : ∀ a, OX' a → OX a) : Rst T OX' H0 so0 ρ H s σ own sown := by
  have m : Same (hid H (Own OX (own ++ sown))) (hid H (Own OX' (own ++ sown))) := hid_less fun a q => q.imp (h a) id
  exact ⟨R.same, R.there, R.nt, R.env.mono m (List.prefix_refl _) fun _ _ _ q => q, R.sto.mono m (List.prefix_refl _) fun _ _ _ q => q, R.nd, R.new, R.snew, fun a ma q => R.ox a ma (h a q), fun a q => R.oxH a (h a q)⟩
/-- more is tracked: nothing that stood is changed -/
theorem Rst.grow (R : Rst T OX H0 so0 ρ H s σ own sown) (h : Same H H') (hn : ∀ a, Own OX (own ++ sown) a → ∃ u, H a = some u := by exact fun _ h => h) : Rst T OX H0 so0 ρ H' s σ own sown := by
  have m : Same (hid H (Own OX (own ++ sown))) (hid H' (Own OX (own ++ sown))) := hid_mono fun a o e p => ⟨p, h a o e⟩
  exact ⟨fun a u e n => h a u (R.same a u e n), fun a u e => (R.there a u e).imp fun u' q => h a u' q, fun a q => (R.nt a q).mono h, R.env.mono m (List.prefix_refl _) fun a _ u q => h a u q, R.sto.mono m (List.prefix_refl _) fun a _ u q => h a u q, R.nd, R.new, R.snew, R.ox, fun a q => (R.oxH a q).mono h⟩
theorem RpE.there {Φ : Hp} : ∀ {env : List (Option (Nat × D))} {σ : St} {o : List Addr}, RpE T ρ Φ H env σ o → ∀ a ∈ o, ∃ vs, H a = some (.lst vs)
  | _, _, _, .nil, a, m => by simp at m
  | _, _, _, .no r, a, m => RpE.there r a m
  | _, _, _, .yes h r, a, m => by
    rcases List.mem_append.mp m with m | m
    · exact h.there a m
    · exact RpE.there r a m
theorem RpF.there {Φ : Hp} : ∀ {fs : List (Nat × D)} {vs : List V} {o : List Addr}, RpF T ρ Φ H fs vs o → ∀ a ∈ o, ∃ vs, H a = some (.lst vs)
  | _, _, _, .nil, a, m => by simp at m
  | _, _, _, .cons h r, a, m => by
    rcases List.mem_append.mp m with m | m
    · exact h.there a m
    · exact RpF.there r a m
theorem RpS.there {Φ : Hp} : ∀ {sto : Sto} {as o : List Addr}, RpS T ρ Φ H sto as o → ∀ a ∈ o, Nt H a
  | _, _, _, .nil, a, m => by simp at m
  | _, _, _, .cons _ _ h3 h4 r, a, m => by
    rcases List.mem_cons.mp m with rfl | m
    · exact ⟨_, h3, rfl⟩
    · rcases List.mem_append.mp m with m | m
      · exact .lst (h4.there a m)
      · exact RpS.there r a m
/-- what is owned is there -/
theorem Rst.ownH (R : Rst T OX H0 so0 ρ H s σ own sown) : ∀ a, Own OX (own ++ sown) a → Nt H a := fun a q => by
  rcases q with q | q
  · exact R.oxH a q
  · rcases List.mem_append.mp q with q | q
    · exact .lst (R.env.there a q)
    · exact R.sto.there a q
theorem Rst.grows (R : Rst T OX H0 so0 ρ H s σ own sown) (h : Same H H') : Rst T OX H0 so0 ρ H' s σ own sown := R.grow h fun a q => (R.ownH a q).ex
end

/-! ### where one stands -/
structure Bs where
  OX : Addr → Prop
  H0 : Hp
  so0 : List Addr
  ρ : List Addr
  H : Hp
  own : List Addr
  sown : List Addr
/-- the frozen part -/
noncomputable def Bs.Φ (b : Bs) : Hp := hid b.H (Own b.OX (b.own ++ b.sown))
theorem Bs.le (b : Bs) : Same b.Φ b.H := hid_le
abbrev At (T : Tb) (b : Bs) (s : S) (σ : St) : Prop := Rst T b.OX b.H0 b.so0 b.ρ b.H s σ b.own b.sown
/-- from b to b'; the temporary value at hand owns o -/
structure Go (b b' : Bs) (o : List Addr) : Prop where
  adv : Adv b.H b.own b.sown b'.H (o ++ b'.own) b'.sown
  pre : b.ρ <+: b'.ρ
  h0 : b'.H0 = b.H0
  so : b'.so0 = b.so0
  nd : o.Nodup
  no : ∀ a ∈ o, ¬ b.OX a
  ox : ∀ a, b'.OX a ↔ (b.OX a ∨ a ∈ o)
section
variable {T : Tb} {b b1 b2 b' : Bs} {s s1 s2 : S} {σ : St} {o o' o1 o2 : List Addr} {H' : Hp}
theorem Go.refl (b : Bs) : Go b b [] := ⟨Adv.refl _ _ _, List.prefix_refl _, rfl, rfl, List.nodup_nil, fun _ m => by simp at m, fun a => by simp⟩
theorem Go.phi (g : Go b b' o) : Same b.Φ b'.Φ := hid_mono fun a u q n => by
  have ns : a ∉ b.sown := fun m => n (.inr (List.mem_append_right _ m))
  have hn : ∀ c, c ∈ o ++ b'.own → c = a → False := fun c m e => by
    subst e
    rcases g.adv.sub _ m with z | z
    · exact n (.inr (List.mem_append_left _ z))
    · rw [q] at z; cases z
  refine ⟨fun z => ?_, g.adv.same a u q ns⟩
  rcases z with z | z
  · rcases (g.ox a).mp z with z | z
    · exact n (.inl z)
    · exact hn a (List.mem_append_left _ z) rfl
  · rcases List.mem_append.mp z with z | z
    · exact hn a (List.mem_append_right _ z) rfl
    · rcases g.adv.ssub a z with z | z
      · exact ns z
      · rw [q] at z; cases z
/-- with other owners from outside -/
def Bs.out (b : Bs) (OX : Addr → Prop) : Bs := { b with OX := OX }
/-- two steps: of what the two values own, o is still owned -/
theorem Go.comp (g1 : Go b b1 o1) (g2 : Go b1 b2 o2) (nd : o.Nodup) (sub : ∀ a ∈ o, a ∈ o1 ∨ a ∈ o2) : Go b (b2.out fun a => b.OX a ∨ a ∈ o) o where
  adv := by
    have go2 : ∀ a, a ∈ o2 ++ b2.own → a ∈ b.own ∨ b.H a = none := fun a m => by
      rcases g2.adv.sub a m with q | q
      · exact g1.adv.sub a (List.mem_append_right _ q)
      · exact .inr (g1.adv.gone q)
    refine ⟨fun a u h n => ?_, fun a u h => ?_, fun a h => ?_, fun a m => ?_, fun a m => ?_⟩
    · refine g2.adv.same a u (g1.adv.same a u h n) fun m => ?_
      rcases g1.adv.ssub a m with q | q
      · exact n q
      · rw [h] at q; cases q
    · obtain ⟨u', h'⟩ := g1.adv.there a u h
      exact g2.adv.there a u' h'
    · exact g2.adv.nt a (g1.adv.nt a h)
    · rcases List.mem_append.mp m with m | m
      · rcases sub a m with m | m
        · exact g1.adv.sub a (List.mem_append_left _ m)
        · exact go2 a (List.mem_append_left _ m)
      · exact go2 a (List.mem_append_right _ m)
    · rcases g2.adv.ssub a m with q | q
      · exact g1.adv.ssub a q
      · exact .inr (g1.adv.gone q)
  pre := g1.pre.trans g2.pre
  h0 := g2.h0.trans g1.h0
  so := g2.so.trans g1.so
  nd := nd
  no := fun a m z => by
    rcases sub a m with m | m
    · exact g1.no a m z
    · exact g2.no a m ((g1.ox a).mpr (.inl z))
  ox := fun a => Iff.rfl
theorem Go.atComp (g1 : Go b b1 o1) (g2 : Go b1 b2 o2) (sub : ∀ a ∈ o, a ∈ o1 ∨ a ∈ o2) (A : At T b2 s σ) : At T (b2.out fun a => b.OX a ∨ a ∈ o) s σ :=
  A.weak fun a q => by
    rcases q with q | q
    · exact (g2.ox a).mpr (.inl ((g1.ox a).mpr (.inl q)))
    · rcases sub a q with q | q
      · exact (g2.ox a).mpr (.inl ((g1.ox a).mpr (.inr q)))
      · exact (g2.ox a).mpr (.inr q)
/-- both values at hand -/
theorem Go.trans (g1 : Go b b1 o1) (g2 : Go b1 b2 o2) : Go b b2 (o1 ++ o2) := by
  have nd : (o1 ++ o2).Nodup := List.nodup_append.mpr ⟨g1.nd, g2.nd, fun a m c m' e => g2.no c m' ((g1.ox c).mpr (.inr (e ▸ m)))⟩
  have g := g1.comp g2 nd fun a m => List.mem_append.mp m
  refine ⟨g.adv, g.pre, g.h0, g.so, g.nd, g.no, fun a => ?_⟩
  rw [g2.ox, g1.ox, List.mem_append, or_assoc]
/-- what is at hand is given up -/
theorem Go.drop (g : Go b b' o) : Go b (b'.out b.OX) [] := ⟨g.adv.less fun a m => List.mem_append_right _ (show a ∈ b'.own from m), g.pre, g.h0, g.so, List.nodup_nil, fun _ m => by simp at m, fun a => by simp [Bs.out]⟩
theorem At.drop (g : Go b b' o) (A : At T b' s σ) : At T (b'.out b.OX) s σ := A.weak fun a q => (g.ox a).mpr (.inl q)
/-- the heap grows -/
def Bs.heap (b : Bs) (H : Hp) : Bs := { b with H := H }
theorem Go.grows (g : Go b b' o) (h : Same b'.H H') : Go b (b'.heap H') o where
  adv := ⟨fun a u e n => h a u (g.adv.same a u e n), fun a u e => (g.adv.there a u e).imp fun u' q => h a u' q, fun a q => (g.adv.nt a q).mono h, g.adv.sub, g.adv.ssub⟩
  pre := g.pre
  h0 := g.h0
  so := g.so
  nd := g.nd
  no := g.no
  ox := g.ox
end

/-! ### values at hand -/
inductive EvR (T : Tb) (b : Bs) : EV → V → List Addr → Prop where
  | own {k : Nat} {d : D} {v : V} {o : List Addr} : RpK T b.ρ b.Φ b.H k d v o → EvR T b (.own k d) v o
  | bor {k : Nat} {d : D} {v : V} {o : List Addr} : RpK T b.ρ b.Φ b.H k d v o → (∀ a ∈ o, a ∉ b.sown) → EvR T b (.bor k d) v []
section
variable {T : Tb} {b b1 b2 b' : Bs} {s s1 s2 : S} {σ : St} {o o' o1 o2 : List Addr} {ev : EV} {v : V}
theorem EvR.there (E : EvR T b ev v o) : ∀ a ∈ o, ∃ u, b.H a = some u := by
  cases E with
  | own h => exact fun a m => let ⟨vs, e⟩ := h.there a m; ⟨_, e⟩
  | bor h _ => exact fun a m => by simp at m
theorem EvR.move (E : EvR T b ev v o) (g : Go b b' o') (dis : ∀ a ∈ o, a ∉ b.sown) : EvR T b' ev v o := by
  cases E with
  | own h => exact .own (h.mono g.phi g.pre fun a m u q => g.adv.same a u q (dis a m))
  | bor h n =>
    refine .bor (h.mono g.phi g.pre fun a m u q => g.adv.same a u q (n a m)) fun a m z => ?_
    rcases g.adv.ssub a z with z | z
    · exact n a m z
    · obtain ⟨vs, e⟩ := h.there a m
      rw [e] at z; cases z
/-- seen -/
theorem EvR.see (E : EvR T b ev v o) : Rp T b.ρ b.H ev.d v := by
  cases E with
  | own h => exact h.see b.le
  | bor h _ => exact h.see b.le
/-- what is at hand is not the store's -/
theorem Go.dis (g : Go b b' o) (A : At T b' s σ) : ∀ a ∈ o, a ∉ b'.sown := fun a m z => A.ox a (List.mem_append_right _ z) ((g.ox a).mpr (.inr m))
end
end BT
end

section
/-! BtExpr: expressions: the evaluator's answer is the model's. -/
namespace BT
open PySem PySem.Spec L2
open PyProof.Rows hiding St
set_option autoImplicit false

/-- how an exception of the small language stands -/
inductive RX (T : Tb) (ρ : List Addr) (Φ : Hp) : Exc → Value → Option Addr → Prop where
  | mk {c : Nat} {cls : Value} {d : Option Addr} {ns : List PySem.Str} {fs : List D} {vs : List V} : T.exc c = some (cls, ns) → ns.length = vs.length → ns.Nodup →
      (ns = [] ∧ d = none ∨ ∃ dd, d = some dd ∧ Φ dd = some (.xd (ns.zip vs).reverse)) → RpL T ρ Φ fs vs → RX T ρ Φ ⟨c, fs⟩ cls d
theorem RX.mono {T : Tb} {ρ ρ' : List Addr} {Φ Φ' : Hp} {x : Exc} {c : Value} {d : Option Addr} (h : RX T ρ Φ x c d) (e : Same Φ Φ') (p : ρ <+: ρ') : RX T ρ' Φ' x c d := by
  cases h with
  | mk h1 h2 h3 h4 h5 => exact .mk h1 h2 h3 (h4.imp id fun ⟨dd, q1, q2⟩ => ⟨dd, q1, e _ _ q2⟩) (h5.mono e p)

/-- what is wanted behind an evaluation that gives `out` -/
def Post {α ω : Type} (T : Tb) (b : Bs) (σ : St) (R : Bs → α → ω → List Addr → Prop) (out : Out α) (Q : ω → Hp → Prop) (W : WX) : Prop :=
  match out with
  | .ok a s' => ∀ w b' o, Go b b' o → At T b' s' σ → R b' a w o → Q w b'.H
  | .exc x s' => ∀ c d b', Go b b' [] → At T b' s' σ → RX T b'.ρ b'.Φ x c d → W c d σ b'.H
  | .err => False
section
variable {α β ω ω' : Type} {T : Tb} {b b0 b1 b' : Bs} {σ : St} {s s' : S} {o o0 : List Addr} {R : Bs → α → ω → List Addr → Prop} {R' : Bs → β → ω' → List Addr → Prop} {out : Out α} {f : α → S → Out β} {W : WX}
theorem Post.mono {Q Q' : ω → Hp → Prop} (h : Post T b σ R out Q W) (m : ∀ w H, Q w H → Q' w H) : Post T b σ R out Q' W := by
  cases out with
  | ok a s' => exact fun w b' o g A r => m _ _ (h w b' o g A r)
  | exc x s' => exact h
  | err => exact h
theorem Bs.out_phi {OX : Addr → Prop} (b : Bs) (h : ∀ a, OX a → b.OX a) : Same b.Φ (b.out OX).Φ := hid_less fun a q => q.imp (h a) id
theorem Go.excOut {x : Exc} {c : Value} {d : Option Addr} (g0 : Go b0 b o0) {b2 : Bs} (g : Go b b2 []) (A : At T b2 s' σ) (r : RX T b2.ρ b2.Φ x c d) :
    ∃ b', b'.H = b2.H ∧ Go b0 b' [] ∧ At T b' s' σ ∧ RX T b'.ρ b'.Φ x c d := by
  have sub : ∀ a ∈ ([] : List Addr), a ∈ o0 ∨ a ∈ ([] : List Addr) := fun a m => by simp at m
  refine ⟨b2.out fun a => b0.OX a ∨ a ∈ [], rfl, g0.comp g List.nodup_nil sub, g0.atComp g sub A, r.mono (Bs.out_phi b2 fun a q => ?_) (List.prefix_refl _)⟩
  rcases q with q | q
  · exact (g.ox a).mpr (.inl ((g0.ox a).mpr (.inl q)))
  · simp at q
/-- one evaluation, then another -/
theorem Post.seq {Q : ω' → Hp → Prop} (g0 : Go b0 b o0) (h : Post T b0 σ R' (out.bind f) Q W) :
    Post T b σ R out (fun w H' => ∃ a s' b' o, b'.H = H' ∧ Go b b' o ∧ At T b' s' σ ∧ R b' a w o ∧ Post T b0 σ R' (f a s') Q W) W := by
  cases out with
  | ok a s' => exact fun w b' o g A r => ⟨a, s', b', o, rfl, g, A, r, h⟩
  | exc x s' =>
    intro c d b2 g A r
    obtain ⟨b', e, g', A', r'⟩ := g0.excOut g A r
    rw [← e]
    exact h c d b' g' A' r'
  | err => exact h
end

/-! ### readings -/
/-- the calls of the small language -/
abbrev CF := Nat → List D → Sto → CR
def tE (T : Tb) (C : CF) (W : WX) (c : CE) : TE := fun σ H Q => ∃ b s, b.H = H ∧ At T b s σ ∧ Post T b σ (EvR T) (evalE C c s) Q W
/-- values in a row: the temporary ones own what they own -/
inductive EvRs (T : Tb) (b : Bs) : List EV → List V → List Addr → Prop where
  | nil : EvRs T b [] [] []
  | cons {e : EV} {v : V} {es : List EV} {vs : List V} {o o' : List Addr} : EvR T b e v o → EvRs T b es vs o' → EvRs T b (e :: es) (v :: vs) (o ++ o')
def tEs (T : Tb) (C : CF) (W : WX) (c : CEs) : TA := fun σ H Q => ∃ b s, b.H = H ∧ At T b s σ ∧ Post T b σ (EvRs T) (evalEs C c s) Q W
def tT (T : Tb) (C : CF) (W : WX) (c : CE) : TT := fun σ H Q => ∃ b s, b.H = H ∧ At T b s σ ∧ Post T b σ (fun _ t w o => w = t ∧ o = []) (evalT C c s) Q W

theorem PE.weak {X : Cx} {e : Expr} {t t' : TE} (h : PE X e t) (w : ∀ σ H Q, t' σ H Q → t σ H Q) : PE X e t' := ⟨fun pins s σ H Q I q => h.run pins s σ H Q I (w σ H Q q)⟩
theorem PT.weak {X : Cx} {e : Expr} {t t' : TT} (h : PT X e t) (w : ∀ σ H Q, t' σ H Q → t σ H Q) : PT X e t' := ⟨fun pins s σ H Q I q => h.run pins s σ H Q I (w σ H Q q)⟩
theorem PA.weak {X : Cx} {e : List Expr} {t t' : TA} (h : PA X e t) (w : ∀ σ H Q, t' σ H Q → t σ H Q) : PA X e t' := ⟨fun pos pins s σ H Q I q => h.run pos pins s σ H Q I (w σ H Q q)⟩
theorem PS.weak {X : Cx} {e : Stmt} {t t' : TS} (h : PS X e t) (w : ∀ D σ H, t' D σ H → t D σ H) : PS X e t' := ⟨fun pins s σ H D I q => h.run pins s σ H D I (w D σ H q)⟩
theorem PSs.weak {X : Cx} {e : List Stmt} {t t' : TS} (h : PSs X e t) (w : ∀ D σ H, t' D σ H → t D σ H) : PSs X e t' := ⟨fun pins s σ H D I q => h.run pins s σ H D I (w D σ H q)⟩

section
variable {T : Tb} {C : CF} {W : WX} {b b' b1 b2 : Bs} {σ : St} {s s' : S} {o o1 o2 : List Addr} {Q : VK} {z : D} {v : V}
/-- the end: a scalar -/
theorem Post.fin0 {Φ : Hp} (g : Go b b' o) (A : At T b' s' σ) (h : Post T b σ (EvR T) (.ok (.own 0 z) s') Q W) (sz : scal z = true) (r : Rp T b'.ρ Φ z v) : Q v b'.H :=
  h v (b'.out b.OX) [] g.drop (At.drop g A) (.own (.sc sz (r.scal sz)))
theorem Post.fin0H {Φ H' : Hp} (g : Go b b' o) (A : At T b' s' σ) (hH : Same b'.H H') (h : Post T b σ (EvR T) (.ok (.own 0 z) s') Q W) (sz : scal z = true) (r : Rp T b'.ρ Φ z v) : Q v H' :=
  h v ((b'.out b.OX).heap H') [] (g.drop.grows hH) ((At.drop g A).grows hH) (.own (.sc sz (r.scal sz)))
theorem Post.liftD {q : Option D} (h : Post T b σ (EvR T) (lift q s') Q W) : ∃ z, q = some z ∧ Post T b σ (EvR T) (.ok (.own 0 z) s') Q W := by
  cases q with
  | none => exact h.elim
  | some z => exact ⟨z, rfl, h⟩
theorem Post.liftB {q : Option Bool} (h : Post T b σ (EvR T) (BT.liftB q s') Q W) : ∃ z, q = some z ∧ Post T b σ (EvR T) (.ok (.own 0 (.bl z)) s') Q W := by
  cases q with
  | none => exact h.elim
  | some z => exact ⟨z, rfl, h⟩
end

/-! ### constants and names -/
section
variable {T : Tb} {C : CF} {W : WX} {X : Cx} {pos : Pos}
theorem snd_c {e : Expr} {c : CE} {d : D} {v : V} (h : PE X e (tC v)) (hc : ∀ s, evalE C c s = .ok (.own 0 d) s) (sd : scal d = true) (r : ∀ ρ Φ, Rp T ρ Φ d v) : PE X e (tE T C W c) :=
  PE.weak h fun σ H Q ⟨b, s, eH, A, h⟩ => by
    subst eH
    rw [hc] at h
    exact h.fin0 (Go.refl b) A sd (r b.ρ b.Φ)
theorem getElem?_set_same {α : Type} {l : List α} {i : Nat} {x : α} (h : l[i]? = some x) : l.set i x = l := by
  induction l generalizing i with
  | nil => rfl
  | cons a l ih =>
    cases i with
    | zero => simp at h; subst h; rfl
    | succ i => rw [List.set_cons_succ, ih (by simpa using h)]
/-- of three parts the middle one is given up, in the same heap -/
theorem At.slot {b : Bs} {s : S} {σ : St} {i k : Nat} {d : D} (A : At T b s σ) (e : s.env[i]? = some (some (k, d))) :
    ∃ v p m q, b.own = p ++ m ++ q ∧ σ[i]? = some (some v) ∧ RpK T b.ρ b.Φ b.H k d v m ∧
      (∀ (OX : Addr → Prop) (k' : Nat) (d' : D) (v' : V) (m' : List Addr), (∀ a, OX a → b.OX a ∨ a ∈ m) → m'.Nodup → (∀ a ∈ m', a ∈ m ∧ ¬ OX a) → RpK T b.ρ (hid b.H (Own OX ((p ++ m' ++ q) ++ b.sown))) b.H k' d' v' m' →
        Rst T OX b.H0 b.so0 b.ρ b.H { s with env := s.env.set i (some (k', d')) } (σ.set i (some v')) (p ++ m' ++ q) b.sown) ∧
      (∀ (OX : Addr → Prop), (∀ a, OX a → b.OX a ∨ a ∈ m) → Rst T OX b.H0 b.so0 b.ρ b.H { s with env := s.env.set i none } σ (p ++ q) b.sown) := by
  obtain ⟨v, p, m, q, e1, e2, e3, e4, e5⟩ := RpE.split A.env e
  have nd : ((p ++ m ++ q) ++ b.sown).Nodup := by rw [← e1]; exact A.nd
  have ox : ∀ a, a ∈ p ++ m ++ q ∨ a ∈ b.sown → ¬ b.OX a := fun a h => A.ox a (by rw [e1]; exact List.mem_append.mpr h)
  have nd' := nd
  simp only [List.nodup_append, List.mem_append] at nd'
  refine ⟨v, p, m, q, e1, e2, e3, fun OX k' d' v' m' hox hm hs r => ?_, fun OX hox => ?_⟩
  · have hΦ : Same (hid b.H (Own b.OX (b.own ++ b.sown))) (hid b.H (Own OX ((p ++ m' ++ q) ++ b.sown))) := hid_less fun a z => by
      rcases z with z | z
      · rcases hox a z with z | z
        · exact .inl z
        · exact .inr (by rw [e1]; simp [z])
      · refine .inr ?_
        rw [e1]
        simp only [List.mem_append] at z ⊢
        rcases z with ((z | z) | z) | z
        · simp [z]
        · simp [(hs a z).1]
        · simp [z]
        · simp [z]
    refine ⟨A.same, A.there, A.nt, e4 hΦ (List.prefix_refl _) (fun _ _ _ h => h) k' d' v' m' r, A.sto.mono hΦ (List.prefix_refl _) fun _ _ _ h => h, ?_, fun a ha => A.new a ?_, A.snew, fun a ha z => ?_, fun a z => ?_⟩
    · simp only [List.nodup_append, List.mem_append] at nd' ⊢
      obtain ⟨⟨⟨n1, n2, n3⟩, n4, n5⟩, n6, n7⟩ := nd'
      refine ⟨⟨⟨n1, hm, fun a ha c hc => n3 a ha c (hs c hc).1⟩, n4, fun a ha c hc => n5 a (ha.imp id fun z => (hs a z).1) c hc⟩, n6, fun a ha c hc => n7 a (ha.imp (Or.imp id fun z => (hs a z).1) id) c hc⟩
    · rw [e1]
      simp only [List.mem_append] at ha ⊢
      exact ha.imp (Or.imp id fun z => (hs a z).1) id
    · rcases hox a z with z1 | z1
      · refine ox a ?_ z1
        simp only [List.mem_append] at ha ⊢
        exact ha.imp (Or.imp (Or.imp id fun z => (hs a z).1) id) id
      · simp only [List.nodup_append, List.mem_append] at nd' ha
        obtain ⟨⟨⟨n1, n2, n3⟩, n4, n5⟩, n6, n7⟩ := nd'
        rcases ha with ((ha | ha) | ha) | ha
        · exact n3 a ha a z1 rfl
        · exact (hs a ha).2 z
        · exact n5 a (.inr z1) a ha rfl
        · exact n7 a (.inl (.inr z1)) a ha rfl
    · rcases hox a z with z1 | z1
      · exact A.oxH a z1
      · exact .lst (e3.there a z1)
  · have hΦ : Same (hid b.H (Own b.OX (b.own ++ b.sown))) (hid b.H (Own OX ((p ++ q) ++ b.sown))) := hid_less fun a z => by
      rcases z with z | z
      · rcases hox a z with z | z
        · exact .inl z
        · exact .inr (by rw [e1]; simp [z])
      · refine .inr ?_
        rw [e1]
        simp only [List.mem_append] at z ⊢
        rcases z with (z | z) | z <;> simp [z]
    refine ⟨A.same, A.there, A.nt, e5 hΦ (List.prefix_refl _) (fun _ _ _ h => h), A.sto.mono hΦ (List.prefix_refl _) fun _ _ _ h => h, ?_, fun a ha => A.new a ?_, A.snew, fun a ha z => ?_, fun a z => ?_⟩
    · simp only [List.nodup_append, List.mem_append] at nd' ⊢
      obtain ⟨⟨⟨n1, n2, n3⟩, n4, n5⟩, n6, n7⟩ := nd'
      exact ⟨⟨n1, n4, fun a ha c hc => n5 a (.inl ha) c hc⟩, n6, fun a ha c hc => n7 a (ha.imp .inl id) c hc⟩
    · rw [e1]
      simp only [List.mem_append] at ha ⊢
      exact ha.imp .inl id
    · rcases hox a z with z1 | z1
      · refine ox a ?_ z1
        simp only [List.mem_append] at ha ⊢
        exact ha.imp (Or.imp .inl id) id
      · simp only [List.nodup_append, List.mem_append] at nd' ha
        obtain ⟨⟨⟨n1, n2, n3⟩, n4, n5⟩, n6, n7⟩ := nd'
        rcases ha with (ha | ha) | ha
        · exact n3 a ha a z1 rfl
        · exact n5 a (.inr z1) a ha rfl
        · exact n7 a (.inl (.inr z1)) a ha rfl
    · rcases hox a z with z1 | z1
      · exact A.oxH a z1
      · exact .lst (e3.there a z1)
theorem snd_var {i : Nat} {e : Expr} (h : PE X e (tVar i)) : PE X e (tE T C W (.var i)) := PE.weak h fun σ H Q ⟨b, s, eH, A, h⟩ => by
  subst eH
  unfold evalE at h
  split at h
  case h_2 => exact h.elim
  case h_1 k d es =>
    obtain ⟨v, p, m, q, e1, e2, e3, e4, e5⟩ := A.slot es
    refine ⟨v, e2, ?_⟩
    have hmem : ∀ a ∈ m, ¬ b.OX a := fun a ha z => A.ox a (by rw [e1]; simp [ha]) z
    have nd' : ((p ++ m ++ q) ++ b.sown).Nodup := by rw [← e1]; exact A.nd
    simp only [List.nodup_append, List.mem_append] at nd'
    obtain ⟨⟨⟨n1, n2, n3⟩, n4, n5⟩, n6, n7⟩ := nd'
    have fr : Rp T b.ρ (hid b.H (Own b.OX ((p ++ [] ++ q) ++ b.sown))) d v := by
      have w : ∀ a, Own b.OX ((p ++ [] ++ q) ++ b.sown) a → Own b.OX (b.own ++ b.sown) a := fun a z => z.imp id fun z => by
        rw [e1]; simp only [List.mem_append, List.append_nil] at z ⊢; rcases z with (z | z) | z <;> simp [z]
      refine e3.freeze (hid_less w) (List.prefix_refl _) fun a ha u hu => ?_
      · rw [hid_at]
        · exact hu
        · rintro (z | z)
          · exact hmem a ha z
          · simp only [List.mem_append, List.append_nil] at z
            rcases z with (z | z) | z
            · exact n3 a z a ha rfl
            · exact n5 a (.inr ha) a z rfl
            · exact n7 a (.inl (.inr ha)) a z rfl
    have A' := e4 b.OX 0 d v [] (fun a z => .inl z) List.nodup_nil (fun a m => by simp at m) (.frz fr)
    rw [getElem?_set_same e2] at A'
    refine h v { b with own := p ++ [] ++ q } [] ⟨⟨fun _ _ h _ => h, fun _ u h => ⟨u, h⟩, fun _ h => h, fun a ha => .inl ?_, fun a ha => .inl ha⟩, List.prefix_refl _, rfl, rfl, List.nodup_nil, fun _ m => by simp at m, fun a => by simp⟩ A' (.own (.frz fr))
    rw [e1]; simp only [List.mem_append, List.append_nil, List.nil_append] at ha ⊢; rcases ha with ha | ha <;> simp [ha]
theorem snd_bor {i : Nat} {e : Expr} (h : PE X e (tVar i)) : PE X e (tE T C W (.bor i)) := PE.weak h fun σ H Q ⟨b, s, eH, A, h⟩ => by
  subst eH
  unfold evalE at h
  split at h
  case h_2 => exact h.elim
  case h_1 k d es =>
    obtain ⟨v, p, m, q, e1, e2, e3, e4, e5⟩ := A.slot es
    refine ⟨v, e2, h v b [] (Go.refl b) A (.bor e3 fun a ha z => ?_)⟩
    have nd' : ((p ++ m ++ q) ++ b.sown).Nodup := by rw [← e1]; exact A.nd
    exact (List.nodup_append.mp nd').2.2 a (by simp [ha]) a z rfl
theorem snd_mv {i : Nat} {e : Expr} (h : PE X e (tVar i)) : PE X e (tE T C W (.mv i)) := PE.weak h fun σ H Q ⟨b, s, eH, A, h⟩ => by
  subst eH
  unfold evalE at h
  split at h
  case h_2 => exact h.elim
  case h_1 k d es =>
    obtain ⟨v, p, m, q, e1, e2, e3, e4, e5⟩ := A.slot es
    refine ⟨v, e2, ?_⟩
    have nd' : ((p ++ m ++ q) ++ b.sown).Nodup := by rw [← e1]; exact A.nd
    have hmem : ∀ a ∈ m, ¬ b.OX a := fun a ha z => A.ox a (by rw [e1]; simp [ha]) z
    have A' := e5 (fun a => b.OX a ∨ a ∈ m) (fun a z => z)
    have w1 : ∀ a ∈ m ++ (p ++ q), a ∈ b.own := fun a ha => by
      rw [e1]; simp only [List.mem_append] at ha ⊢; rcases ha with ha | ha | ha <;> simp [ha]
    have w2 : m.Nodup := ((List.nodup_append.mp (List.nodup_append.mp (List.nodup_append.mp nd').1).1).2).1
    have w3 : ∀ a, Own (fun a => b.OX a ∨ a ∈ m) ((p ++ q) ++ b.sown) a → Own b.OX (b.own ++ b.sown) a := fun a z => by
      rcases z with (z | z) | z
      · exact .inl z
      · exact .inr (by rw [e1]; simp [z])
      · refine .inr ?_
        rw [e1]
        simp only [List.mem_append] at z ⊢; rcases z with (z | z) | z <;> simp [z]
    exact h v { b with own := p ++ q, OX := fun a => b.OX a ∨ a ∈ m } m ⟨⟨fun _ _ h _ => h, fun _ u h => ⟨u, h⟩, fun _ h => h, fun a ha => .inl (w1 a ha), fun a ha => .inl ha⟩, List.prefix_refl _, rfl, rfl, w2, hmem, fun a => Iff.rfl⟩ A' (.own (e3.mono (hid_less w3) (List.prefix_refl _) fun _ _ _ h => h))
end
end BT
end

section
/-! BtOps: operators, comparisons, truth. -/
namespace BT
open PySem PySem.Spec L2
open PyProof.Rows hiding St
set_option autoImplicit false

theorem limLe {n : Nat} (h : n ≤ LIM) : n ≤ sizeLine := by rw [sizeLine_eq]; unfold LIM at h; omega
theorem limLt {n : Nat} (h : n ≤ LIM) : n < sizeLine := by rw [sizeLine_eq]; unfold LIM at h; omega
theorem svLen (a : List Nat) : (sv a).length = a.length := by simp [PySem.Str.length]
theorem svApp (a b : List Nat) : sv a ++ sv b = sv (a ++ b) := by
  show (⟨a.toArray ++ b.toArray⟩ : PySem.Str) = _
  simp
theorem svInj {a b : List Nat} : sv a = sv b ↔ a = b := by
  constructor
  · intro h; simpa [sv] using h
  · rintro rfl; rfl
theorem bitsOk_ok {i j : Int} (h : bitsOk i j = true) : IntMulOk i j := by
  unfold bitsOk at h
  simp only [Bool.or_eq_true, decide_eq_true_eq] at h
  rcases h with (h | h) | h
  · exact .of_left (intBits_le_64 (by omega) (by omega))
  · exact .of_right (intBits_le_64 (by omega) (by omega))
  · exact CMulW.ok h
section
variable {X : Cx} {T : Tb}
def rB (T : Tb) (op : BOp) : R2 := fun x y H Q => ∃ ρ dx dy z, Rp T ρ H dx x ∧ Rp T ρ H dy y ∧ binop op dx dy = some z ∧ ∀ v, (∀ Φ, Rp T ρ Φ z v) → Q v H
theorem strAll {a b : List Nat} (h1 : a.all (· < 1114112) = true) (h2 : b.all (· < 1114112) = true) : (a ++ b).all (· < 1114112) = true := by
  rw [List.all_append, h1, h2] <;> rfl
theorem Rp.strAll {ρ : List Addr} {Φ : Hp} {s : List Nat} {v : V} (h : Rp T ρ Φ (.str s) v) : s.all (· < 1114112) = true := by cases h with | str _ h => exact h
theorem ob_add : OpR X (binaryOp .Add) (rB T .add) := by
  rintro pins s σ H x y v u Q I rx ry ⟨ρ, dx, dy, z, r1, r2, hz, k⟩
  unfold binop at hz
  split at hz <;> try (first | (cases hz; done) | contradiction)
  · cases hz
    exact op_add pins s σ H x y v u Q I rx ry ⟨_, _, r1.int', r2.int', k _ fun Φ => .int _⟩
  · rename_i a b _
    split at hz
    · rename_i hl
      cases hz
      refine op_add_str pins s σ H x y v u Q I rx ry ⟨_, _, r1.str', r2.str', ?_, ?_⟩
      · rw [svLen, svLen]; exact limLe hl
      · rw [svApp]; exact k _ fun Φ => .str _ (BT.strAll r1.strAll r2.strAll)
    · cases hz
theorem ob_sub : OpR X (binaryOp .Sub) (rB T .sub) := by
  rintro pins s σ H x y v u Q I rx ry ⟨ρ, dx, dy, z, r1, r2, hz, k⟩
  unfold binop at hz
  split at hz <;> try contradiction
  cases hz
  exact op_sub pins s σ H x y v u Q I rx ry ⟨_, _, r1.int', r2.int', k _ fun Φ => .int _⟩
theorem op_mulB : OpR X (binaryOp .Mult) (rI IntMulOk fun i j => .int (i * j)) := opI fun _ _ _ _ _ _ _ hc q => mul_int q hc
theorem ob_mul : OpR X (binaryOp .Mult) (rB T .mul) := by
  rintro pins s σ H x y v u Q I rx ry ⟨ρ, dx, dy, z, r1, r2, hz, k⟩
  unfold binop at hz
  split at hz <;> try contradiction
  split at hz
  · rename_i hb
    cases hz
    exact op_mulB pins s σ H x y v u Q I rx ry ⟨_, _, r1.int', r2.int', bitsOk_ok hb, k _ fun Φ => .int _⟩
  · cases hz
theorem ob_fdiv : OpR X (binaryOp .FloorDiv) (rB T .fdiv) := by
  rintro pins s σ H x y v u Q I rx ry ⟨ρ, dx, dy, z, r1, r2, hz, k⟩
  unfold binop at hz
  split at hz <;> try contradiction
  split at hz
  · rename_i hb
    cases hz
    exact op_fdivW pins s σ H x y v u Q I rx ry ⟨_, _, r1.int', r2.int', hb, k _ fun Φ => .int _⟩
  · cases hz
theorem ob_mod : OpR X (binaryOp .Mod) (rB T .mod) := by
  rintro pins s σ H x y v u Q I rx ry ⟨ρ, dx, dy, z, r1, r2, hz, k⟩
  unfold binop at hz
  split at hz <;> try contradiction
  split at hz
  · rename_i hb
    cases hz
    exact op_mod pins s σ H x y v u Q I rx ry ⟨_, _, r1.int', r2.int', hb, k _ fun Φ => .int _⟩
  · cases hz
theorem ob_pow : OpR X (binaryOp .Pow) (rB T .pow) := by
  rintro pins s σ H x y v u Q I rx ry ⟨ρ, dx, dy, z, r1, r2, hz, k⟩
  unfold binop at hz
  split at hz <;> try contradiction
  split at hz
  · rename_i hb
    cases hz
    exact op_pow pins s σ H x y v u Q I rx ry ⟨_, _, r1.int', r2.int', ⟨hb.1, by omega, by omega⟩, k _ fun Φ => .int _⟩
  · cases hz
theorem binop_scal : ∀ {op : BOp} {x y z : D}, binop op x y = some z → scal z = true := by
  intro op x y z h
  unfold binop at h
  split at h <;> (try split at h) <;> first | contradiction | (cases h; rfl)
def opOf : BOp → Operator
  | .add => .Add | .sub => .Sub | .mul => .Mult | .fdiv => .FloorDiv | .mod => .Mod | .pow => .Pow
theorem ob_of (op : BOp) : OpR X (binaryOp (opOf op)) (rB T op) := by
  cases op
  · exact ob_add
  · exact ob_sub
  · exact ob_mul
  · exact ob_fdiv
  · exact ob_mod
  · exact ob_pow

/-! ### comparisons -/
mutual
def toP : D → PyData
  | .non => .none
  | .bl b => .bool b
  | .int i => .int i
  | .str s => .str (sv s)
  | .tup xs => .tuple (toPs xs)
  | .lst xs => .list (toPs xs)
  | _ => .none
def toPs : List D → List PyData
  | [] => []
  | x :: xs => toP x :: toPs xs
end
section
variable {ρ : List Addr} {H : Hp}
mutual
theorem Rp.dp : ∀ {d : D} {v : V}, Rp T ρ H d v → plain d = true → Dp T.K H v (toP d)
  | _, _, .non, _ => .non
  | _, _, .bl b, _ => .bl b
  | _, _, .int i, _ => .int i
  | _, _, .str s _, _ => .str _
  | _, _, .tup h l, p => .tup h (RpL.dp l (by simpa [plain] using p))
  | _, _, .lst h l, p => .lst h (RpL.dp l (by simpa [plain] using p))
  | _, _, .obj _ _ _ _, p => by simp [plain] at p
  | _, _, .exn _ _ _ _ _ _, p => by simp [plain] at p
  | _, _, .loc _, p => by simp [plain] at p
theorem RpL.dp : ∀ {d : List D} {v : List V}, RpL T ρ H d v → plainL d = true → DpAll T.K H v (toPs d)
  | _, _, .nil, _ => .nil
  | _, _, .cons h l, p => by
    simp only [plainL, Bool.and_eq_true] at p
    exact .cons (Rp.dp h p.1) (RpL.dp l p.2)
end
mutual
theorem Rp.lay : ∀ {d : D} {v : V}, Rp T ρ H d v → PyData.canLay0 (toP d) = true
  | _, _, .non => rfl
  | _, _, .bl b => rfl
  | _, _, .int i => rfl
  | _, _, .str s h => by
    show PyData.strOk (sv s) = true
    unfold PyData.strOk
    simpa using h
  | _, _, .tup h l => RpL.lay l
  | _, _, .lst h l => RpL.lay l
  | _, _, .obj _ _ _ _ => rfl
  | _, _, .exn _ _ _ _ _ _ => rfl
  | _, _, .loc _ => rfl
theorem RpL.lay : ∀ {d : List D} {v : List V}, RpL T ρ H d v → PyData.canLayAll0 (toPs d) = true
  | _, _, .nil => rfl
  | _, _, .cons h l => by
    simp only [toPs, PyData.canLayAll0, Bool.and_eq_true]
    exact ⟨Rp.lay h, RpL.lay l⟩
end
end
mutual
theorem toP_dep : ∀ d : D, PyData.depth (toP d) ≤ dep d
  | .non => Nat.le_refl _
  | .bl b => Nat.le_refl _
  | .int i => Nat.le_refl _
  | .str s => Nat.le_refl _
  | .tup xs => Nat.succ_le_succ (toPs_dep xs)
  | .lst xs => Nat.succ_le_succ (toPs_dep xs)
  | .obj _ _ => Nat.zero_le _
  | .exn _ _ => Nat.zero_le _
  | .loc _ => Nat.zero_le _
theorem toPs_dep : ∀ d : List D, PyData.depthAll (toPs d) ≤ depL d
  | [] => Nat.le_refl _
  | x :: xs => by
    simp only [toPs, PyData.depthAll, depL]
    have h1 := toP_dep x
    have h2 := toPs_dep xs
    omega
end
mutual
theorem toP_eq : ∀ a b : D, plain a = true → plain b = true → PyData.eqv (toP a) (toP b) = eqB a b
  | .non, b, _, q => by cases b <;> first | rfl | (simp [plain] at q)
  | .bl x, b, _, q => by
    cases b <;> first | rfl | (simp [plain] at q; done) | (simp [toP, PyData.eqv, eqB, b2i]; done) | skip
    all_goals simp only [toP, PyData.eqv, eqB, b2i]; exact Bool.beq_eq_decide_eq _ _
  | .int x, b, _, q => by
    cases b <;> first | rfl | (simp [plain] at q; done) | skip
    all_goals simp only [toP, PyData.eqv, eqB, b2i]; exact Bool.beq_eq_decide_eq _ _
  | .str x, b, _, q => by
    cases b <;> first | rfl | (simp [plain] at q; done) | skip
    simp only [toP, PyData.eqv, eqB]
    rename_i y
    by_cases e : x = y
    · subst e; simp
    · rw [decide_eq_false e]
      exact beq_eq_false_iff_ne.mpr fun h => e (svInj.mp h)
  | .tup xs, b, p, q => by
    cases b with
    | tup ys => exact toPs_eq xs ys (by simpa [plain] using p) (by simpa [plain] using q)
    | obj _ _ => simp [plain] at q
    | exn _ _ => simp [plain] at q
    | loc _ => simp [plain] at q
    | _ => rfl
  | .lst xs, b, p, q => by
    cases b with
    | lst ys => exact toPs_eq xs ys (by simpa [plain] using p) (by simpa [plain] using q)
    | obj _ _ => simp [plain] at q
    | exn _ _ => simp [plain] at q
    | loc _ => simp [plain] at q
    | _ => rfl
  | .obj _ _, _, p, _ => by simp [plain] at p
  | .exn _ _, _, p, _ => by simp [plain] at p
  | .loc _, _, p, _ => by simp [plain] at p
theorem toPs_eq : ∀ a b : List D, plainL a = true → plainL b = true → PyData.eqvAll (toPs a) (toPs b) = eqL a b
  | [], [], _, _ => rfl
  | [], _ :: _, _, _ => rfl
  | _ :: _, [], _, _ => rfl
  | x :: xs, y :: ys, p, q => by
    simp only [plainL, Bool.and_eq_true] at p q
    simp only [toPs, PyData.eqvAll, eqL]
    rw [toP_eq x y p.1 q.1, toPs_eq xs ys p.2 q.2]
end
/-- is, of None and bools -/
def rC (T : Tb) (op : COp) : R2 := fun x y H Q => ∃ ρ dx dy z, Rp T ρ H dx x ∧ Rp T ρ H dy y ∧ cmpop op dx dy = some z ∧ Q (.bl z) H
theorem eqD_some {a b : D} {z : Bool} (h : eqD a b = some z) : plain a = true ∧ dep a ≤ 100 ∧ plain b = true ∧ eqB a b = z := by
  unfold eqD okD at h
  by_cases hc : ((plain a && decide (dep a ≤ 100)) && (plain b && decide (dep b ≤ 100))) = true
  · rw [if_pos hc] at h
    simp only [Bool.and_eq_true, decide_eq_true_eq] at hc
    exact ⟨hc.1.1, hc.1.2, hc.2.1, Option.some.inj h⟩
  · rw [if_neg hc] at h; cases h
theorem oc_eq (hK : X.K = T.K) (hu : X.A.units + 200 < cLine) : OpR X (compareOp .Eq) (rC T .eq) := by
  rintro pins s σ H x y v u Q I rx ry ⟨ρ, dx, dy, z, r1, r2, hz, k⟩
  obtain ⟨p1, d1, p2, rfl⟩ := eqD_some hz
  obtain ⟨as, q1⟩ := Dp.reads I _ x v (by rw [hK]; exact r1.dp p1) rx
  obtain ⟨bs, q2⟩ := Dp.reads I _ y u (by rw [hK]; exact r2.dp p2) ry
  refine SeqAt.compareEq_reads q1 q2 r1.lay r2.lay ?_ ⟨.bl _, H, I, rfl, ?_⟩
  · have := toP_dep dx
    omega
  · rw [toP_eq _ _ p1 p2]; exact k
theorem oc_ne (hK : X.K = T.K) (hu : X.A.units + 200 < cLine) : OpR X (compareOp .NotEq) (rC T .ne) := by
  rintro pins s σ H x y v u Q I rx ry ⟨ρ, dx, dy, z, r1, r2, hz, k⟩
  simp only [cmpop, Option.map_eq_some_iff] at hz
  obtain ⟨w, hz, rfl⟩ := hz
  obtain ⟨p1, d1, p2, rfl⟩ := eqD_some hz
  obtain ⟨as, q1⟩ := Dp.reads I _ x v (by rw [hK]; exact r1.dp p1) rx
  obtain ⟨bs, q2⟩ := Dp.reads I _ y u (by rw [hK]; exact r2.dp p2) ry
  refine SeqAt.compareNe_reads q1 q2 r1.lay r2.lay ?_ ⟨.bl _, H, I, rfl, ?_⟩
  · have := toP_dep dx
    omega
  · rw [toP_eq _ _ p1 p2]; exact k
theorem oc_lt : OpR X (compareOp .Lt) (rC T .lt) := by
  rintro pins s σ H x y v u Q I rx ry ⟨ρ, dx, dy, z, r1, r2, hz, k⟩
  unfold cmpop at hz
  split at hz <;> try contradiction
  cases hz
  exact op_lt pins s σ H x y v u Q I rx ry ⟨_, _, r1.int', r2.int', k⟩
theorem oc_le : OpR X (compareOp .LtE) (rC T .le) := by
  rintro pins s σ H x y v u Q I rx ry ⟨ρ, dx, dy, z, r1, r2, hz, k⟩
  unfold cmpop at hz
  split at hz <;> try contradiction
  cases hz
  exact op_le pins s σ H x y v u Q I rx ry ⟨_, _, r1.int', r2.int', k⟩
theorem oc_gt : OpR X (compareOp .Gt) (rC T .gt) := by
  rintro pins s σ H x y v u Q I rx ry ⟨ρ, dx, dy, z, r1, r2, hz, k⟩
  unfold cmpop at hz
  split at hz <;> try contradiction
  cases hz
  exact op_gt pins s σ H x y v u Q I rx ry ⟨_, _, r1.int', r2.int', k⟩
theorem oc_ge : OpR X (compareOp .GtE) (rC T .ge) := by
  rintro pins s σ H x y v u Q I rx ry ⟨ρ, dx, dy, z, r1, r2, hz, k⟩
  unfold cmpop at hz
  split at hz <;> try contradiction
  cases hz
  exact op_ge pins s σ H x y v u Q I rx ry ⟨_, _, r1.int', r2.int', k⟩
theorem isD_some {T : Tb} {ρ : List Addr} {H : Hp} {dx dy : D} {z : Bool} {x y : V} (r1 : Rp T ρ H dx x) (r2 : Rp T ρ H dy y) (h : isD dx dy = some z) : (y = .non ∧ decide (x = .non) = z) ∨ ∃ a b : Bool, x = .bl a ∧ y = .bl b ∧ decide (a = b) = z := by
  unfold isD at h
  split at h
  · cases h; exact .inl ⟨r2.non', by rw [r1.non'] <;> rfl⟩
  · rename_i hn
    cases h
    refine .inl ⟨r2.non', decide_eq_false fun e => ?_⟩
    subst e
    cases r1
    exact hn rfl
  · cases h; exact .inr ⟨_, _, r1.bl', r2.bl', rfl⟩
  · cases h
theorem oc_is : OpR X (compareOp .Is) (rC T .is) := by
  rintro pins s σ H x y v u Q I rx ry ⟨ρ, dx, dy, z, r1, r2, hz, k⟩
  rcases isD_some r1 r2 hz with ⟨h1, rfl⟩ | ⟨a, b, h1, h2, rfl⟩
  · exact op_isN pins s σ H x y v u Q I rx ry ⟨h1, k⟩
  · exact op_isBl pins s σ H x y v u Q I rx ry ⟨a, b, h1, h2, k⟩
theorem oc_isNot : OpR X (compareOp .IsNot) (rC T .isNot) := by
  rintro pins s σ H x y v u Q I rx ry ⟨ρ, dx, dy, z, r1, r2, hz, k⟩
  simp only [cmpop, Option.map_eq_some_iff] at hz
  obtain ⟨w, hz, rfl⟩ := hz
  rcases isD_some r1 r2 hz with ⟨h1, rfl⟩ | ⟨a, b, h1, h2, rfl⟩
  · exact op_notN pins s σ H x y v u Q I rx ry ⟨h1, k⟩
  · exact op_notBl pins s σ H x y v u Q I rx ry ⟨a, b, h1, h2, k⟩
theorem any_eq {x : D} (px : plain x = true) : ∀ {ys : List D}, plainL ys = true → ((toPs ys).any fun z => PyData.eqv z (toP x)) = ys.any fun z => eqB z x
  | [], _ => rfl
  | y :: ys, p => by
    simp only [plainL, Bool.and_eq_true] at p
    simp only [toPs, List.any_cons, toP_eq y x p.1 px, any_eq px p.2]
theorem inS_ok {dx dy : D} {z : Bool} {T : Tb} {ρ : List Addr} {H : Hp} {x y : V} (r1 : Rp T ρ H dx x) (r2 : Rp T ρ H dy y) (h : inS dx dy = some z) :
    (∃ i j, x = .str i ∧ y = .str j ∧ (!(Builtin.Str.occurrences j i 0 j.length 1).isEmpty) = z) ∨
    (∃ d ds, Dp T.K H x d ∧ Dp T.K H y (.list ds) ∧ SeqAt.shaped d = true ∧ SeqAt.shaped (.list ds) = true ∧ (ds.any fun z => PyData.eqv z d) = z) ∨
    (∃ d ds, Dp T.K H x d ∧ Dp T.K H y (.tuple ds) ∧ SeqAt.shaped d = true ∧ SeqAt.shaped (.tuple ds) = true ∧ (ds.any fun z => PyData.eqv z d) = z) := by
  unfold inS at h
  split at h
  · rename_i c t
    cases h
    refine .inl ⟨sv [c], sv t, r1.str', r2.str', ?_⟩
    have e : sv [c] = ⟨#[c]⟩ := rfl
    rw [e, PySem.StrLaws.found_one]
    simp [List.contains_eq_mem]
  · rename_i ys
    split at h
    · rename_i hc
      cases h
      simp only [Bool.and_eq_true, decide_eq_true_eq] at hc
      obtain ⟨⟨p1, d1⟩, p2, d2⟩ := hc
      have l1 := r1.lay
      have l2 := r2.lay
      have t1 := toP_dep dx
      have t2 := toP_dep (.lst ys)
      have t2 : PyData.depth (toP (.lst ys)) ≤ depL ys + 1 := t2
      refine .inr (.inl ⟨toP dx, toPs ys, r1.dp p1, r2.dp (by simpa [plain] using p2), ?_, ?_, any_eq p1 p2⟩)
      · unfold SeqAt.shaped
        rw [l1, Bool.true_and]
        exact decide_eq_true (by omega)
      · unfold SeqAt.shaped
        have e : PyData.list (toPs ys) = toP (.lst ys) := rfl
        rw [e, l2, Bool.true_and]
        exact decide_eq_true (by omega)
    · cases h
  · rename_i ys
    split at h
    · rename_i hc
      cases h
      simp only [Bool.and_eq_true, decide_eq_true_eq] at hc
      obtain ⟨⟨p1, d1⟩, p2, d2⟩ := hc
      have l1 := r1.lay
      have l2 := r2.lay
      have t1 := toP_dep dx
      have t2 := toP_dep (.tup ys)
      have t2 : PyData.depth (toP (.tup ys)) ≤ depL ys + 1 := t2
      refine .inr (.inr ⟨toP dx, toPs ys, r1.dp p1, r2.dp (by simpa [plain] using p2), ?_, ?_, any_eq p1 p2⟩)
      · unfold SeqAt.shaped
        rw [l1, Bool.true_and]
        exact decide_eq_true (by omega)
      · unfold SeqAt.shaped
        have e : PyData.tuple (toPs ys) = toP (.tup ys) := rfl
        rw [e, l2, Bool.true_and]
        exact decide_eq_true (by omega)
    · cases h
  · cases h
theorem oc_in (hK : X.K = T.K) (hu : X.A.units + 200 < cLine) : OpR X (compareOp .In) (rC T .isin) := by
  rintro pins s σ H x y v u Q I rx ry ⟨ρ, dx, dy, z, r1, r2, hz, k⟩
  rcases inS_ok r1 r2 hz with ⟨i, j, h1, h2, rfl⟩ | ⟨d, ds, h1, h2, h3, h4, rfl⟩ | ⟨d, ds, h1, h2, h3, h4, rfl⟩
  · exact op_in_str pins s σ H x y v u Q I rx ry ⟨i, j, h1, h2, k⟩
  · exact op_inD (by omega) pins s σ H x y v u Q I rx ry ⟨d, ds, by rw [hK]; exact h1, by rw [hK]; exact h2, h3, h4, k⟩
  · obtain ⟨as, q1⟩ := Dp.reads I d x v (by rw [hK]; exact h1) rx
    obtain ⟨bs, q2⟩ := Dp.reads I (.tuple ds) y u (by rw [hK]; exact h2) ry
    exact SeqAt.in_tuple_reads q2 q1 (SeqAt.canLay_of_shaped h4) (SeqAt.canLay_of_shaped h3) (room_in_shaped h3 (by omega)) ⟨.bl _, H, I, rfl, k⟩
theorem oc_notin (hK : X.K = T.K) (hu : X.A.units + 200 < cLine) : OpR X (compareOp .NotIn) (rC T .notin) := by
  rintro pins s σ H x y v u Q I rx ry ⟨ρ, dx, dy, z, r1, r2, hz, k⟩
  simp only [cmpop, Option.map_eq_some_iff] at hz
  obtain ⟨w, hz, rfl⟩ := hz
  rcases inS_ok r1 r2 hz with ⟨i, j, rfl, rfl, rfl⟩ | ⟨d, ds, h1, h2, h3, h4, rfl⟩ | ⟨d, ds, h1, h2, h3, h4, rfl⟩
  · obtain ⟨t, rfl⟩ := rx
    obtain ⟨t', rfl⟩ := ry
    exact notIn_str ⟨.bl _, H, I, rfl, k⟩
  · exact op_notInD (by omega) pins s σ H x y v u Q I rx ry ⟨d, ds, by rw [hK]; exact h1, by rw [hK]; exact h2, h3, h4, k⟩
  · obtain ⟨as, q1⟩ := Dp.reads I d x v (by rw [hK]; exact h1) rx
    obtain ⟨bs, q2⟩ := Dp.reads I (.tuple ds) y u (by rw [hK]; exact h2) ry
    exact SeqAt.notIn_tuple_reads q2 q1 (SeqAt.canLay_of_shaped h4) (SeqAt.canLay_of_shaped h3) (room_in_shaped h3 (by omega)) ⟨.bl _, H, I, rfl, k⟩
def cmpOf : COp → CmpOp
  | .eq => .Eq | .ne => .NotEq | .lt => .Lt | .le => .LtE | .gt => .Gt | .ge => .GtE | .is => .Is | .isNot => .IsNot | .isin => .In | .notin => .NotIn
theorem oc_of (hK : X.K = T.K) (hu : X.A.units + 200 < cLine) (op : COp) : OpR X (compareOp (cmpOf op)) (rC T op) := by
  cases op
  · exact oc_eq hK hu
  · exact oc_ne hK hu
  · exact oc_lt
  · exact oc_le
  · exact oc_gt
  · exact oc_ge
  · exact oc_is
  · exact oc_isNot
  · exact oc_in hK hu
  · exact oc_notin hK hu

/-! ### truth -/
theorem truth_V (hK : X.K = T.K) {ρ : List Addr} {H : Hp} {d : D} {v : V} {k : Bool} (r : Rp T ρ H d v) (h : truth d = some k) : TruV X.K v H k := by
  unfold truth at h
  split at h
  · cases h; rw [r.non'] <;> rfl
  · cases h; rw [r.bl'] <;> rfl
  · cases h; rw [r.int'] <;> rfl
  · split at h
    · rename_i s hl
      cases h
      rw [r.str']
      refine ⟨by rw [svLen]; exact limLe hl, ?_⟩
      rw [svLen]
      cases s <;> rfl
    · cases h
  · cases h
    obtain ⟨a, vs, rfl, hs, hl⟩ := r.tup'
    refine .inr (.inl ⟨vs, by rw [hK]; exact hs, ?_⟩)
    cases hl <;> rfl
  · cases h
    obtain ⟨a, vs, rfl, hs, hl⟩ := r.lst'
    refine .inl ⟨vs, by rw [hK]; exact hs, ?_⟩
    cases hl <;> rfl
  · cases h
end
end BT
end

section
/-! BtExpr2: composed expressions and tests. -/
namespace BT
open PySem PySem.Spec L2
open PyProof.Rows hiding St
set_option autoImplicit false

theorem Out.bind_assoc {α β γ : Type} (o : Out α) (f : α → S → Out β) (g : β → S → Out γ) : (o.bind f).bind g = o.bind fun a s => (f a s).bind g := by cases o <;> rfl
section
variable {T : Tb} {b b' b1 b2 : Bs} {σ : St} {s s' : S} {o o0 o1 o2 : List Addr} {ev : EV} {v : V} {W : WX} {Q : VK}
theorem EvR.out {OX : Addr → Prop} (E : EvR T b ev v o) (h : ∀ a, OX a → b.OX a) : EvR T (b.out OX) ev v o := by
  cases E with
  | own r => exact .own (r.mono (Bs.out_phi b h) (List.prefix_refl _) fun _ _ _ q => q)
  | bor r n => exact .bor (r.mono (Bs.out_phi b h) (List.prefix_refl _) fun _ _ _ q => q) n
theorem Post.shift {out : Out EV} (g0 : Go b b1 o0) (h : Post T b σ (EvR T) out Q W) : Post T b1 σ (EvR T) out Q W := by
  cases out with
  | ok a s' =>
    intro w b2 o g A E
    have sub : ∀ a ∈ o, a ∈ o0 ∨ a ∈ o := fun a m => .inr m
    refine h w (b2.out fun a => b.OX a ∨ a ∈ o) o (g0.comp g g.nd sub) (g0.atComp g sub A) (E.out fun a q => ?_)
    rcases q with q | q
    · exact (g.ox a).mpr (.inl ((g0.ox a).mpr (.inl q)))
    · exact (g.ox a).mpr (.inr q)
  | exc x s' =>
    intro c d b2 g A r
    obtain ⟨b', e, g', A', r'⟩ := g0.excOut g A r
    rw [← e]
    exact h c d b' g' A' r'
  | err => exact h
theorem Post.shiftB {out : Out Bool} {Q : Bool → Hp → Prop} (g0 : Go b b1 o0) (h : Post T b σ (fun _ t w o => w = t ∧ o = []) out Q W) : Post T b1 σ (fun _ t w o => w = t ∧ o = []) out Q W := by
  cases out with
  | ok a s' =>
    intro w b2 o g A E
    obtain ⟨rfl, rfl⟩ := E
    have sub : ∀ a ∈ ([] : List Addr), a ∈ o0 ∨ a ∈ ([] : List Addr) := fun a m => .inr m
    exact h w (b2.out fun a => b.OX a ∨ a ∈ []) [] (g0.comp g List.nodup_nil sub) (g0.atComp g sub A) ⟨rfl, rfl⟩
  | exc x s' =>
    intro c d b2 g A r
    obtain ⟨b', e, g', A', r'⟩ := g0.excOut g A r
    rw [← e]
    exact h c d b' g' A' r'
  | err => exact h
/-- the value at hand is the answer -/
theorem Post.here {s' : S} (g : Go b b' o) (A : At T b' s' σ) (E : EvR T b' ev v o) (h : Post T b σ (EvR T) (.ok ev s') Q W) : Q v b'.H := h v b' o g A E
end
section
variable {T : Tb} {C : CF} {W : WX} {X : Cx} {pos : Pos} {e f : Expr} {ca cb cc : CE}
theorem snd_bin {op : BOp} (ha : PE X e (tE T C W ca)) (hb : PE X f (tE T C W cb)) : PE X (.BinOp e (opOf op) f pos) (tE T C W (.bin op ca cb)) :=
  PE.weak (pe_op (ob_of (T := T) op) ha hb) fun σ H Q ⟨b, s, eH, A, h⟩ => by
    subst eH
    unfold evalE at h
    refine ⟨b, s, rfl, A, (Post.seq (Go.refl b) h).mono fun v H1 ⟨x, s1, b1, o1, e1, g1, A1, E1, h1⟩ => ?_⟩
    subst e1
    refine ⟨b1, s1, rfl, A1, (Post.seq g1 h1).mono fun w H2 ⟨y, s2, b2, o2, e2, g2, A2, E2, h2⟩ => ?_⟩
    subst e2
    obtain ⟨z, hz, h3⟩ := h2.liftD
    exact ⟨b2.ρ, x.d, y.d, z, (E1.move g2 (g1.dis A1)).see, E2.see, hz, fun v r => h3.fin0 (g1.trans g2) A2 (binop_scal hz) (r fun _ => none)⟩
theorem snd_neg (ha : PE X e (tE T C W ca)) : PE X (.UnaryOp .USub e pos) (tE T C W (.neg ca)) :=
  PE.weak (pe_un un_neg ha) fun σ H Q ⟨b, s, eH, A, h⟩ => by
    subst eH
    unfold evalE at h
    refine ⟨b, s, rfl, A, (Post.seq (Go.refl b) h).mono fun v H1 ⟨x, s1, b1, o1, e1, g1, A1, E1, h1⟩ => ?_⟩
    subst e1
    have see := E1.see
    split at h1
    · rename_i i e
      rw [e] at see
      exact ⟨i, see.int', h1.fin0 g1 A1 rfl (.int (Φ := fun _ => none) _)⟩
    · exact h1.elim
theorem snd_cmp {op : COp} (hK : X.K = T.K) (hu : X.A.units + 200 < cLine) (ha : PE X e (tE T C W ca)) (hb : PE X f (tE T C W cb)) (hm : behindInMarks (cmpOf op) f = false) : PE X (.Compare e [cmpOf op] [f] pos) (tE T C W (.cmp op ca cb)) :=
  PE.weak (pe_cmpR (oc_of hK hu op) ha hb hm) fun σ H Q ⟨b, s, eH, A, h⟩ => by
    subst eH
    unfold evalE at h
    refine ⟨b, s, rfl, A, (Post.seq (Go.refl b) h).mono fun v H1 ⟨x, s1, b1, o1, e1, g1, A1, E1, h1⟩ => ?_⟩
    subst e1
    refine ⟨b1, s1, rfl, A1, (Post.seq g1 h1).mono fun w H2 ⟨y, s2, b2, o2, e2, g2, A2, E2, h2⟩ => ?_⟩
    subst e2
    obtain ⟨z, hz, h3⟩ := h2.liftB
    exact ⟨b2.ρ, x.d, y.d, z, (E1.move g2 (g1.dis A1)).see, E2.see, hz, h3.fin0 (g1.trans g2) A2 rfl (.bl (Φ := fun _ => none) _)⟩
theorem snd_cmpT {op : COp} (hK : X.K = T.K) (hu : X.A.units + 200 < cLine) (ha : PE X e (tE T C W ca)) (hb : PE X f (tE T C W cb)) (hm : behindInMarks (cmpOf op) f = false) : PT X (.Compare e [cmpOf op] [f] pos) (tT T C W (.cmp op ca cb)) :=
  PT.weak (pt_cmpR (oc_of hK hu op) ha hb hm) fun σ H Q ⟨b, s, eH, A, h⟩ => by
    subst eH
    unfold evalT evalE at h
    rw [Out.bind_assoc] at h
    refine ⟨b, s, rfl, A, (Post.seq (Go.refl b) h).mono fun v H1 ⟨x, s1, b1, o1, e1, g1, A1, E1, h1⟩ => ?_⟩
    subst e1
    rw [Out.bind_assoc] at h1
    refine ⟨b1, s1, rfl, A1, (Post.seq g1 h1).mono fun w H2 ⟨y, s2, b2, o2, e2, g2, A2, E2, h2⟩ => ?_⟩
    subst e2
    cases hz : cmpop op x.d y.d with
    | none => rw [hz] at h2; exact h2.elim
    | some z =>
      rw [hz] at h2
      have g := g1.trans g2
      exact ⟨b2.ρ, x.d, y.d, z, (E1.move g2 (g1.dis A1)).see, E2.see, hz, z, rfl, h2 z (b2.out b.OX) [] g.drop (At.drop g A2) ⟨rfl, rfl⟩⟩
theorem chn_core {o1 o2 : COp} {b : Bs} {s : S} {σ : St} {Q Q' : VK} (A : At T b s σ) (h : Post T b σ (EvR T) (evalE C (.chn o1 o2 ca cb cc) s) Q W) (m : ∀ z H', Q (.bl z) H' → Q' (.bl z) H') :
    tChain (rC T o1) (rC T o2) (tE T C W ca) (tE T C W cb) (tE T C W cc) σ b.H Q' := by
  unfold evalE at h
  refine ⟨b, s, rfl, A, (Post.seq (Go.refl b) h).mono fun v H1 ⟨x, s1, b1, o1', e1, g1, A1, E1, h1⟩ => ?_⟩
  subst e1
  refine ⟨b1, s1, rfl, A1, (Post.seq g1 h1).mono fun w H2 ⟨y, s2, b2, o2', e2, g2, A2, E2, h2⟩ => ?_⟩
  subst e2
  have g := g1.trans g2
  cases hz : cmpop o1 x.d y.d with
  | none => rw [hz] at h2; exact h2.elim
  | some z =>
    rw [hz] at h2
    refine ⟨b2.ρ, x.d, y.d, z, (E1.move g2 (g1.dis A1)).see, E2.see, hz, z, rfl, ?_⟩
    cases z with
    | false => exact m _ _ (h2.fin0 g A2 rfl (.bl (Φ := fun _ => none) _))
    | true =>
      refine ⟨b2, s2, rfl, A2, (Post.seq g h2).mono fun u H3 ⟨z, s3, b3, o3, e3, g3, A3, E3, h3⟩ => ?_⟩
      subst e3
      obtain ⟨r, hr, h4⟩ := h3.liftB
      exact ⟨b3.ρ, y.d, z.d, r, (E2.move g3 (g2.dis A2)).see, E3.see, hr, m _ _ (h4.fin0 (g.trans g3) A3 rfl (.bl (Φ := fun _ => none) _))⟩
theorem tE_bl {Q : Bool → Hp → Prop} {b : Bs} {s : S} {σ : St} (h : Post T b σ (fun _ t w o => w = t ∧ o = []) (evalT C ca s) Q W) (hb : ∀ x s', evalE C ca s = .ok x s' → ∃ z k, x = .own k (.bl z)) : Post T b σ (EvR T) (evalE C ca s) (fun v H => ∃ z, v = .bl z ∧ Q z H) W := by
  unfold evalT at h
  cases he : evalE C ca s with
  | ok x s' =>
    obtain ⟨z, k, rfl⟩ := hb x s' he
    rw [he] at h
    intro v b' o g A E
    have := E.see
    exact ⟨z, this.bl', h z (b'.out b.OX) [] g.drop (At.drop g A) ⟨rfl, rfl⟩⟩
  | exc x s' => rw [he] at h; exact h
  | err => rw [he] at h; exact h
theorem chn_bl {o1 o2 : COp} {s s' : S} {x : EV} (h : evalE C (.chn o1 o2 ca cb cc) s = .ok x s') : ∃ z k, x = .own k (.bl z) := by
  unfold evalE at h
  cases ha : evalE C ca s with
  | exc _ _ => rw [ha] at h; cases h
  | err => rw [ha] at h; cases h
  | ok x1 s1 =>
    rw [ha] at h
    simp only [Out.bind] at h
    cases hb : evalE C cb s1 with
    | exc _ _ => rw [hb] at h; cases h
    | err => rw [hb] at h; cases h
    | ok y1 s2 =>
      rw [hb] at h
      simp only at h
      split at h
      · cases hc : evalE C cc s2 with
        | exc _ _ => rw [hc] at h; cases h
        | err => rw [hc] at h; cases h
        | ok z1 s3 =>
          rw [hc] at h
          simp only [liftB] at h
          split at h
          · cases h; exact ⟨_, _, rfl⟩
          · cases h
      · cases h; exact ⟨_, _, rfl⟩
      · cases h
theorem snd_chn {g : Expr} {o1 o2 : COp} (hK : X.K = T.K) (hu : X.A.units + 200 < cLine) (ha : PE X e (tE T C W ca)) (hb : PE X f (tE T C W cb)) (hc : PE X g (tE T C W cc)) (hm : lastMarks [cmpOf o1, cmpOf o2] [f, g] = false) : PE X (.Compare e [cmpOf o1, cmpOf o2] [f, g] pos) (tE T C W (.chn o1 o2 ca cb cc)) :=
  PE.weak (pe_chain (oc_of (T := T) hK hu o1) (oc_of (T := T) hK hu o2) ha hb hc hm) fun σ H Q ⟨b, s, eH, A, h⟩ => by
    subst eH
    exact chn_core A h fun _ _ q => q
theorem snd_chnT {g : Expr} {o1 o2 : COp} (hK : X.K = T.K) (hu : X.A.units + 200 < cLine) (ha : PE X e (tE T C W ca)) (hb : PE X f (tE T C W cb)) (hc : PE X g (tE T C W cc)) (hm : lastMarks [cmpOf o1, cmpOf o2] [f, g] = false) : PT X (.Compare e [cmpOf o1, cmpOf o2] [f, g] pos) (tT T C W (.chn o1 o2 ca cb cc)) :=
  PT.weak (pt_chain (oc_of (T := T) hK hu o1) (oc_of (T := T) hK hu o2) ha hb hc hm) fun σ H Q ⟨b, s, eH, A, h⟩ => by
    subst eH
    exact chn_core A (tE_bl h fun x s' e => chn_bl e) fun z H' q => by
      obtain ⟨z', e, q⟩ := q
      cases e
      exact ⟨_, rfl, q⟩
/-- a test by the value's truth -/
theorem snd_truth (hK : X.K = T.K) (ha : PE X e (tE T C W ca)) (he : ∀ whole, isTrue e X.env whole = (do let v ← whole; standAt e.pos; holding [v] (truthy v))) : PT X e (tT T C W ca) :=
  PT.weak (pt_truth ha he) fun σ H Q ⟨b, s, eH, A, h⟩ => by
    subst eH
    unfold evalT at h
    refine ⟨b, s, rfl, A, (Post.seq (Go.refl b) h).mono fun v H1 ⟨x, s1, b1, o1, e1, g1, A1, E1, h1⟩ => ?_⟩
    subst e1
    cases hz : truth x.d with
    | none => rw [hz] at h1; exact h1.elim
    | some z =>
      rw [hz] at h1
      exact ⟨z, truth_V hK E1.see hz, h1 z (b1.out b.OX) [] g1.drop (At.drop g1 A1) ⟨rfl, rfl⟩⟩
theorem snd_not (hK : X.K = T.K) (ha : PE X e (tE T C W ca)) : PE X (.UnaryOp .Not e pos) (tE T C W (.not ca)) :=
  PE.weak (pe_notT ha) fun σ H Q ⟨b, s, eH, A, h⟩ => by
    subst eH
    unfold evalE at h
    refine ⟨b, s, rfl, A, (Post.seq (Go.refl b) h).mono fun v H1 ⟨x, s1, b1, o1, e1, g1, A1, E1, h1⟩ => ?_⟩
    subst e1
    cases hz : truth x.d with
    | none => rw [hz] at h1; exact h1.elim
    | some z =>
      rw [hz] at h1
      exact ⟨z, truth_V hK E1.see hz, Post.fin0 (z := .bl (!z)) g1 A1 h1 rfl (.bl (Φ := fun _ => none) _)⟩
theorem snd_notT (ha : PT X e (tT T C W ca)) : PT X (.UnaryOp .Not e pos) (tT T C W (.not ca)) :=
  PT.weak (pt_not ha) fun σ H Q ⟨b, s, eH, A, h⟩ => by
    subst eH
    unfold evalT evalE at h
    rw [Out.bind_assoc] at h
    refine ⟨b, s, rfl, A, ?_⟩
    unfold evalT
    cases ho : evalE C ca s with
    | err => rw [ho] at h; exact h
    | exc x s1 => rw [ho] at h; exact h
    | ok x s1 =>
      rw [ho] at h
      simp only [Out.bind] at h ⊢
      cases hz : truth x.d with
      | none => rw [hz] at h; exact h.elim
      | some z =>
        rw [hz] at h
        intro w b' o g A' E
        obtain ⟨rfl, rfl⟩ := E
        exact h (!w) b' [] g A' ⟨rfl, rfl⟩
variable {rest : List Expr}
theorem snd_and (hK : X.K = T.K) (ha : PE X e (tE T C W ca)) (hb : PE X (.BoolOp .And (f :: rest) pos) (tE T C W cb)) : PE X (.BoolOp .And (e :: f :: rest) pos) (tE T C W (.and ca cb)) :=
  PE.weak (pe_andT ha hb) fun σ H Q ⟨b, s, eH, A, h⟩ => by
    subst eH
    unfold evalE at h
    refine ⟨b, s, rfl, A, (Post.seq (Go.refl b) h).mono fun v H1 ⟨x, s1, b1, o1, e1, g1, A1, E1, h1⟩ => ?_⟩
    subst e1
    cases hz : truth x.d with
    | none => rw [hz] at h1; exact h1.elim
    | some z =>
      rw [hz] at h1
      refine ⟨z, by rw [hK]; exact hK ▸ truth_V hK E1.see hz, ?_⟩
      cases z with
      | true => exact ⟨b1, s1, rfl, A1, Post.shift g1 h1⟩
      | false => exact Post.here g1 A1 E1 h1
theorem snd_or (hK : X.K = T.K) (ha : PE X e (tE T C W ca)) (hb : PE X (.BoolOp .Or (f :: rest) pos) (tE T C W cb)) : PE X (.BoolOp .Or (e :: f :: rest) pos) (tE T C W (.or ca cb)) :=
  PE.weak (pe_orT ha hb) fun σ H Q ⟨b, s, eH, A, h⟩ => by
    subst eH
    unfold evalE at h
    refine ⟨b, s, rfl, A, (Post.seq (Go.refl b) h).mono fun v H1 ⟨x, s1, b1, o1, e1, g1, A1, E1, h1⟩ => ?_⟩
    subst e1
    cases hz : truth x.d with
    | none => rw [hz] at h1; exact h1.elim
    | some z =>
      rw [hz] at h1
      refine ⟨z, by rw [hK]; exact hK ▸ truth_V hK E1.see hz, ?_⟩
      cases z with
      | false => exact ⟨b1, s1, rfl, A1, Post.shift g1 h1⟩
      | true => exact Post.here g1 A1 E1 h1
theorem snd_andT (ha : PT X e (tT T C W ca)) (hb : PW X (.BoolOp .And (f :: rest) pos) (tT T C W cb)) : PW X (.BoolOp .And (e :: f :: rest) pos) (tT T C W (.and ca cb)) := by
  have p := pw_and ha hb
  refine ⟨fun whole pins s σ H Q I q => p.run whole pins s σ H Q I ?_⟩
  obtain ⟨b, s, eH, A, h⟩ := q
  subst eH
  unfold evalT evalE at h
  rw [Out.bind_assoc] at h
  refine ⟨b, s, rfl, A, ?_⟩
  unfold evalT
  cases ho : evalE C ca s with
  | err => rw [ho] at h; exact h
  | exc x s1 => rw [ho] at h; exact h
  | ok x s1 =>
    rw [ho] at h
    simp only [Out.bind] at h ⊢
    cases hz : truth x.d with
    | none => rw [hz] at h; exact h.elim
    | some z =>
      rw [hz] at h
      intro w b' o g A' E
      obtain ⟨rfl, rfl⟩ := E
      cases w with
      | true => exact ⟨b', s1, rfl, A', Post.shiftB g h⟩
      | false =>
        simp only [hz] at h
        exact h false b' [] g A' ⟨rfl, rfl⟩
theorem snd_orT (ha : PT X e (tT T C W ca)) (hb : PW X (.BoolOp .Or (f :: rest) pos) (tT T C W cb)) : PW X (.BoolOp .Or (e :: f :: rest) pos) (tT T C W (.or ca cb)) := by
  have p := pw_or ha hb
  refine ⟨fun whole pins s σ H Q I q => p.run whole pins s σ H Q I ?_⟩
  obtain ⟨b, s, eH, A, h⟩ := q
  subst eH
  unfold evalT evalE at h
  rw [Out.bind_assoc] at h
  refine ⟨b, s, rfl, A, ?_⟩
  unfold evalT
  cases ho : evalE C ca s with
  | err => rw [ho] at h; exact h
  | exc x s1 => rw [ho] at h; exact h
  | ok x s1 =>
    rw [ho] at h
    simp only [Out.bind] at h ⊢
    cases hz : truth x.d with
    | none => rw [hz] at h; exact h.elim
    | some z =>
      rw [hz] at h
      intro w b' o g A' E
      obtain ⟨rfl, rfl⟩ := E
      cases w with
      | false => exact ⟨b', s1, rfl, A', Post.shiftB g h⟩
      | true =>
        simp only [hz] at h
        exact h true b' [] g A' ⟨rfl, rfl⟩
theorem snd_ife {g : Expr} (hc : PT X g (tT T C W cc)) (ha : PE X e (tE T C W ca)) (hb : PE X f (tE T C W cb)) : PE X (.IfExp g e f pos) (tE T C W (.ife cc ca cb)) :=
  PE.weak (pe_ifExp hc ha hb) fun σ H Q ⟨b, s, eH, A, h⟩ => by
    subst eH
    unfold evalE at h
    refine ⟨b, s, rfl, A, ?_⟩
    unfold evalT
    cases ho : evalE C cc s with
    | err => rw [ho] at h; exact h
    | exc x s1 => rw [ho] at h; exact h
    | ok x s1 =>
      rw [ho] at h
      simp only [Out.bind] at h ⊢
      cases hz : truth x.d with
      | none => rw [hz] at h; exact h.elim
      | some z =>
        rw [hz] at h
        intro w b' o g A' E
        obtain ⟨rfl, rfl⟩ := E
        cases w with
        | true => exact ⟨b', s1, rfl, A', Post.shift g h⟩
        | false => exact ⟨b', s1, rfl, A', Post.shift g h⟩
end
end BT
end

section
/-! BtExpr3: rows of arguments, displays, items. -/
namespace BT
open PySem PySem.Spec L2
open PyProof.Rows hiding St
set_option autoImplicit false
section
variable {T : Tb} {b b' b1 b2 : Bs} {σ : St} {s s' : S} {o o' : List Addr} {xs : List EV} {vs : List V} {W : WX}
theorem EvRs.len : ∀ {xs : List EV} {vs : List V} {o : List Addr}, EvRs T b xs vs o → xs.length = vs.length
  | _, _, _, .nil => rfl
  | _, _, _, .cons _ l => by rw [List.length_cons, List.length_cons, EvRs.len l]
theorem EvRs.frz {Φ' : Hp} (e : Same b.Φ Φ') : ∀ {xs : List EV} {vs : List V} {o : List Addr}, EvRs T b xs vs o → (∀ a ∈ o, ∀ u, b.H a = some u → Φ' a = some u) → xs.all (fun x => EV.fit 0 x || EV.free x) = true → RpL T b.ρ Φ' (xs.map EV.d) vs
  | _, _, _, .nil, _, _ => .nil
  | _, _, _, .cons (e := x) h l, q, f => by
    rw [List.all_cons, Bool.and_eq_true] at f
    refine .cons ?_ (EvRs.frz e l (fun a m => q a (List.mem_append_right _ m)) f.2)
    cases h with
    | own r => exact r.freeze e (List.prefix_refl _) fun a m => q a (List.mem_append_left _ m)
    | bor r n =>
      have f1 := f.1
      simp only [EV.fit, EV.free, Bool.or_eq_true, beq_iff_eq] at f1
      rcases f1 with f1 | f1 | f1
      · exact (r.scal f1).2.scal f1
      · exact (r.scal f1).2.scal f1
      · subst f1
        exact r.zero.2.mono e (List.prefix_refl _)
theorem EvRs.keep {k : Nat} : ∀ {xs : List EV} {vs : List V} {o : List Addr}, EvRs T b xs vs o → xs.all (EV.fit (k + 1)) = true → RpKL T b.ρ b.Φ b.H (k + 1) (xs.map EV.d) vs o
  | _, _, _, .nil, _ => .nil
  | _, _, _, .cons (e := x) h l, f => by
    rw [List.all_cons, Bool.and_eq_true] at f
    refine .cons ?_ (EvRs.keep l f.2)
    cases h with
    | own r =>
      have f1 := f.1
      simp only [EV.fit, BT.fit, Bool.or_eq_true, beq_iff_eq] at f1
      rcases f1 with (f1 | f1) | f1
      · obtain ⟨rfl, r'⟩ := r.scal f1
        exact .sc f1 r'
      · cases f1
      · subst f1; exact r
    | bor r n => exact .sc f.1 (r.scal f.1).2
theorem EvRs.see : ∀ {xs : List EV} {vs : List V} {o : List Addr}, EvRs T b xs vs o → RpL T b.ρ b.H (xs.map EV.d) vs
  | _, _, _, .nil => .nil
  | _, _, _, .cons h l => .cons h.see (EvRs.see l)
/-- what was at hand becomes frozen when it is given up -/
theorem Go.vis (g : Go b b' o) (A : At T b' s' σ) : ∀ a ∈ o, ∀ u, b'.H a = some u → (b'.out b.OX).Φ a = some u := fun a m u h => by
  unfold Bs.Φ
  rw [hid_at]
  · exact h
  · rintro (z | z)
    · exact g.no a m z
    · exact A.ox a z ((g.ox a).mpr (.inr m))
theorem Go.outLe (g : Go b b' o) : Same b'.Φ (b'.out b.OX).Φ := Bs.out_phi b' fun a q => (g.ox a).mpr (.inl q)
/-- a new object at p, owned by what is at hand -/
def Bs.fresh (b b' : Bs) (p : Addr) (h : HO) (o : List Addr) : Bs := { b' with OX := fun a => b.OX a ∨ a ∈ p :: o, H := upd b'.H p h }
theorem fresh_same {H : Hp} {p : Addr} {h : HO} (np : H p = none) : Same H (upd H p h) := fun a u e => by rw [upd_ne (ne_of_none e np)]; exact e
theorem Go.fresh {p : Addr} {h : HO} (g : Go b b' o) (A : At T b s σ) (A' : At T b' s' σ) (np : b'.H p = none) (nd : o'.Nodup) (sub : ∀ a ∈ o', a ∈ o) : Go b (b.fresh b' p h o') (p :: o') where
  adv := by
    refine ⟨fun a u e n => fresh_same np a u (g.adv.same a u e n), fun a u e => (g.adv.there a u e).imp fun u' q => fresh_same np a u' q, fun a q => (g.adv.nt a q).mono (fresh_same np), fun a m => ?_, g.adv.ssub⟩
    rcases List.mem_append.mp m with m | m
    · rcases List.mem_cons.mp m with rfl | m
      · exact .inr (g.adv.gone np)
      · exact g.adv.sub a (List.mem_append_left _ (sub a m))
    · exact g.adv.sub a (List.mem_append_right _ m)
  pre := g.pre
  h0 := g.h0
  so := g.so
  nd := by
    refine List.nodup_cons.mpr ⟨fun m => ?_, nd⟩
    obtain ⟨u, e, _⟩ := A'.oxH p ((g.ox p).mpr (.inr (sub p m)))
    rw [np] at e; cases e
  no := fun a m z => by
    rcases List.mem_cons.mp m with rfl | m
    · obtain ⟨u, e, _⟩ := A.oxH a z
      obtain ⟨u', e'⟩ := g.adv.there a u e
      rw [np] at e'; cases e'
    · exact g.no a (sub a m) z
  ox := fun a => Iff.rfl
theorem At.fresh {p : Addr} {h : HO} (g : Go b b' o) (A : At T b' s' σ) (np : b'.H p = none) (sub : ∀ a ∈ o', a ∈ o) (hT : isT h = false := by rfl) : At T (b.fresh b' p h o') s' σ := by
  have hox : ∀ a, (b.OX a ∨ a ∈ p :: o') → a = p ∨ b'.OX a := fun a z => by
    rcases z with z | z
    · exact .inr ((g.ox a).mpr (.inl z))
    · rcases List.mem_cons.mp z with z | z
      · exact .inl z
      · exact .inr ((g.ox a).mpr (.inr (sub a z)))
  have hs : Same b'.H (upd b'.H p h) := fresh_same np
  have key : Same (hid b'.H (Own b'.OX (b'.own ++ b'.sown))) (hid (upd b'.H p h) (Own (fun a => b.OX a ∨ a ∈ p :: o') (b'.own ++ b'.sown))) := hid_mono fun a u e n => by
    refine ⟨fun z => ?_, hs a u e⟩
    rcases z with z | z
    · rcases hox a z with z | z
      · rw [z, np] at e; cases e
      · exact n (.inl z)
    · exact n (.inr z)
  refine ⟨fun a u e n => hs a u (A.same a u e n), fun a u e => (A.there a u e).imp fun u' q => hs a u' q, fun a q => (A.nt a q).mono hs, A.env.mono key (List.prefix_refl _) fun a _ u q => hs a u q, A.sto.mono key (List.prefix_refl _) fun a _ u q => hs a u q, A.nd, A.new, A.snew, fun a m z => ?_, fun a z => ?_⟩
  · rcases hox a z with z | z
    · subst z
      obtain ⟨u, q, _⟩ := A.ownH a (.inr m)
      rw [np] at q; cases q
    · exact A.ox a m z
  · show Nt (upd b'.H p h) a
    rcases hox a z with z | z
    · exact ⟨h, by rw [z, upd_same], hT⟩
    · exact (A.oxH a z).mono hs
theorem Bs.fresh_phi {p : Addr} {h : HO} (g : Go b b' o) (np : b'.H p = none) (sub : ∀ a ∈ o', a ∈ o) : Same b'.Φ (b.fresh b' p h o').Φ := hid_mono fun a u e n => by
  refine ⟨fun z => ?_, fresh_same np a u e⟩
  rcases z with (z | z) | z
  · exact n (.inl ((g.ox a).mpr (.inl z)))
  · rcases List.mem_cons.mp z with z | z
    · rw [z, np] at e; cases e
    · exact n (.inl ((g.ox a).mpr (.inr (sub a z))))
  · exact n (.inr z)
/-- a new tuple at p: frozen at once -/
theorem grow_at {p : Addr} {h : HO} (A : At T b' s' σ) (np : b'.H p = none) : (b'.heap (upd b'.H p h)).Φ p = some h := by
  unfold Bs.Φ
  rw [hid_at]
  · exact upd_same
  · intro z
    obtain ⟨u, q, _⟩ := A.ownH p z
    rw [np] at q; cases q
theorem grow_phi {p : Addr} {h : HO} (np : b'.H p = none) : Same b'.Φ (b'.heap (upd b'.H p h)).Φ := hid_mono fun a u e n => ⟨n, fresh_same np a u e⟩
end
section
variable {T : Tb} {C : CF} {W : WX} {X : Cx} {pos : Pos} {e f : Expr} {ca cb cc : CE} {es : List Expr} {cs : CEs}
theorem snd_nil : PA X [] (tEs T C W .nil) := PA.weak pa_nil fun σ H Q ⟨b, s, eH, A, h⟩ => by
  subst eH
  exact h [] b [] (Go.refl b) A .nil
theorem snd_cons (ha : PE X e (tE T C W ca)) (hr : PA X es (tEs T C W cs)) (hs : starEach (e :: es) X.env = (false, eval e X.env) :: starEach es X.env) : PA X (e :: es) (tEs T C W (.cons ca cs)) :=
  PA.weak (pa_cons ha hr hs) fun σ H Q ⟨b, s, eH, A, h⟩ => by
    subst eH
    unfold evalEs at h
    refine ⟨b, s, rfl, A, (Post.seq (Go.refl b) h).mono fun v H1 ⟨x, s1, b1, o1, e1, g1, A1, E1, h1⟩ => ?_⟩
    subst e1
    refine ⟨b1, s1, rfl, A1, (Post.seq g1 h1).mono fun ws H2 ⟨ys, s2, b2, o2, e2, g2, A2, E2, h2⟩ => ?_⟩
    subst e2
    exact h2 (v :: ws) b2 (o1 ++ o2) (g1.trans g2) A2 (.cons (E1.move g2 (g1.dis A1)) E2)
theorem snd_tup {k : Nat} {x1 : Nat} (ha : PA X es (tEs T C W cs)) : PE X (.Tuple es x1 pos) (tE T C W (.tup k cs)) :=
  PE.weak (pe_tup ha) fun σ H Q ⟨b, s, eH, A, h⟩ => by
    subst eH
    unfold evalE at h
    refine ⟨b, s, rfl, A, (Post.seq (Go.refl b) h).mono fun vs H1 ⟨xs, s1, b1, o1, e1, g1, A1, E1, h1⟩ => ?_⟩
    subst e1
    cases k with
    | zero => exact h1.elim
    | succ k =>
      by_cases hc : (xs.all (EV.fit k) && decide (xs.length ≤ LIM)) = true
      · simp only [hc, if_true] at h1
        simp only [Bool.and_eq_true, decide_eq_true_eq] at hc
        refine ⟨by rw [← E1.len]; exact limLe hc.2, fun p np => ?_⟩
        cases k with
        | zero =>
          have fr := E1.frz (g1.outLe) (g1.vis A1) (by
            have := hc.1
            rw [List.all_eq_true] at this ⊢
            exact fun x m => by rw [this x m] <;> rfl)
          have A1' := At.drop g1 A1
          have np' : (b1.out b.OX).H p = none := np
          have hs : Same (b1.out b.OX).H (upd (b1.out b.OX).H p (.tup vs)) := fresh_same np'
          exact h1 (.ref p) ((b1.out b.OX).heap (upd (b1.out b.OX).H p (.tup vs))) [] (g1.drop.grows hs) (A1'.grows hs)
            (.own (.tup (SqT.of (grow_at A1' np')) (RpKL.ofL (fr.mono (grow_phi np') (List.prefix_refl _)))))
        | succ k =>
          have hs : Same b1.H (upd b1.H p (.tup vs)) := fresh_same np
          exact h1 (.ref p) (b1.heap (upd b1.H p (.tup vs))) o1 (g1.grows hs) (A1.grows hs)
            (.own (.tup (SqT.of (grow_at A1 np)) ((E1.keep hc.1).mono (grow_phi np) (List.prefix_refl _) fun a _ u q => hs a u q)))
      · simp only [hc] at h1; exact h1.elim
theorem snd_lst {k : Nat} (ha : PA X es (tEs T C W cs)) : PE X (.List es pos) (tE T C W (.lst k cs)) :=
  PE.weak (pe_lst ha) fun σ H Q ⟨b, s, eH, A, h⟩ => by
    subst eH
    unfold evalE at h
    refine ⟨b, s, rfl, A, (Post.seq (Go.refl b) h).mono fun vs H1 ⟨xs, s1, b1, o1, e1, g1, A1, E1, h1⟩ => ?_⟩
    subst e1
    cases k with
    | zero => exact h1.elim
    | succ k =>
      by_cases hc : (xs.all (EV.fit k) && decide (xs.length ≤ LIM)) = true
      · simp only [hc, if_true] at h1
        simp only [Bool.and_eq_true, decide_eq_true_eq] at hc
        refine ⟨by rw [← E1.len]; exact limLe hc.2, fun p np => ?_⟩
        cases k with
        | zero =>
          have fr := E1.frz (g1.outLe) (g1.vis A1) (by
            have := hc.1
            rw [List.all_eq_true] at this ⊢
            exact fun x m => by rw [this x m] <;> rfl)
          have sub : ∀ a ∈ ([] : List Addr), a ∈ o1 := fun a m => by simp at m
          have e : Same (b1.out b.OX).Φ (b.fresh b1 p (.lst vs) []).Φ := hid_mono fun a u e n => by
            refine ⟨fun z => ?_, fresh_same np a u e⟩
            rcases z with (z | z) | z
            · exact n (.inl z)
            · rcases List.mem_cons.mp z with z | z
              · have : b1.H a = some u := e
                rw [z, np] at this; cases this
              · simp at z
            · exact n (.inr z)
          exact h1 (.ref p) (b.fresh b1 p (.lst vs) []) [p] (g1.fresh A A1 np List.nodup_nil sub) (At.fresh g1 A1 np sub)
            (.own (.lst upd_same (RpKL.ofL (fr.mono e (List.prefix_refl _)))))
        | succ k =>
          exact h1 (.ref p) (b.fresh b1 p (.lst vs) o1) (p :: o1) (g1.fresh A A1 np g1.nd fun _ m => m) (At.fresh g1 A1 np fun _ m => m)
            (.own (.lst upd_same ((E1.keep hc.1).mono (Bs.fresh_phi g1 np fun _ m => m) (List.prefix_refl _) fun a _ u q => fresh_same np a u q)))
      · simp only [hc] at h1; exact h1.elim
theorem ixN_eq (n : Nat) (i : Int) : BT.ixN n i = L2.ixN n i := rfl
theorem RpK.item {ρ : List Addr} {Φ H : Hp} {k : Nat} {d : D} {v : V} {o : List Addr} {ds : List D} {i : Int} {j : Nat} {z : D} (r : RpK T ρ Φ H k d v o) (le : Same Φ H) (hd : d = .tup ds ∨ d = .lst ds) (hj : BT.ixN ds.length i = some j) (hz : ds[j]? = some z) :
    ∃ p vs u o3, v = .ref p ∧ (SqL T.K H p vs ∨ SqT T.K H p vs) ∧ atI vs i = some u ∧ o3.Sublist o ∧ RpK T ρ Φ H (k - 1) z u o3 := by
  have at1 : ∀ {vs : List V} {u : V}, ds.length = vs.length → vs[j]? = some u → atI vs i = some u := fun {vs u} hl hu => by
    unfold atI
    rw [← hl, ← ixN_eq, hj]
    exact hu
  cases r with
  | sc s h => rcases hd with rfl | rfl <;> cases s
  | frz h =>
    rcases hd with rfl | rfl
    · obtain ⟨p, vs, rfl, hs, hl⟩ := h.tup'
      obtain ⟨u, hu, ru⟩ := hl.get hz
      exact ⟨p, vs, u, [], rfl, .inr (same_t le hs), at1 hl.len hu, List.Sublist.refl _, .frz ru⟩
    · obtain ⟨p, vs, rfl, hs, hl⟩ := h.lst'
      obtain ⟨u, hu, ru⟩ := hl.get hz
      exact ⟨p, vs, u, [], rfl, .inl (same_l le hs), at1 hl.len hu, List.Sublist.refl _, .frz ru⟩
  | tup hs hl =>
    rcases hd with hd | hd
    · cases hd
      obtain ⟨u, o1, hu, ru, sl⟩ := hl.get hz
      exact ⟨_, _, u, o1, rfl, .inr (same_t le hs), at1 hl.len hu, sl, ru⟩
    · cases hd
  | lst hs hl =>
    rcases hd with hd | hd
    · cases hd
    · cases hd
      obtain ⟨u, o1, hu, ru, sl⟩ := hl.get hz
      exact ⟨_, _, u, o1, rfl, .inl (SqL.of hs), at1 hl.len hu, sl.trans (List.sublist_cons_self _ _), ru⟩
theorem snd_idx (hK : X.K = T.K) (ha : PE X e (tE T C W ca)) (hb : PE X f (tE T C W cb)) (hp : PlainIx f) : PE X (.Subscript e f pos) (tE T C W (.idx ca cb)) :=
  PE.weak (pe_ix ix_seq ha hb hp) fun σ H Q ⟨b, s, eH, A, h⟩ => by
    subst eH
    unfold evalE at h
    refine ⟨b, s, rfl, A, (Post.seq (Go.refl b) h).mono fun v H1 ⟨x, s1, b1, o1, e1, g1, A1, E1, h1⟩ => ?_⟩
    subst e1
    refine ⟨b1, s1, rfl, A1, (Post.seq g1 h1).mono fun w H2 ⟨y, s2, b2, o2, e2, g2, A2, E2, h2⟩ => ?_⟩
    subst e2
    cases hz : idxD x.d y.d with
    | none => rw [hz] at h2; exact h2.elim
    | some z =>
      rw [hz] at h2
      have E := E1.move g2 (g1.dis A1)
      have g := g1.trans g2
      have sY := E2.see
      have sX := E.see
      -- an item of a list, of a tuple
      have seq : ∀ (ds : List D) (i : Int), x.d = .tup ds ∨ x.d = .lst ds → y.d = .int i → ∀ j, BT.ixN ds.length i = some j → ds[j]? = some z → rIx X.K v w b2.H Q := by
        intro ds i hd hy j hj hdj
        rw [hy] at sY
        have done : ∀ {p : Addr} {vs : List V} {u : V}, v = .ref p → (SqL T.K b2.H p vs ∨ SqT T.K b2.H p vs) → atI vs i = some u → Q u b2.H → rIx X.K v w b2.H Q := fun {p vs u} hv hs ha q => by
          rw [← hK] at hs
          rcases hs with hs | hs
          · exact .inl ⟨p, vs, i, u, hv, sY.int', hs, ha, q⟩
          · exact .inr (.inl ⟨p, vs, i, u, hv, sY.int', hs, ha, q⟩)
        cases E with
        | own r =>
          obtain ⟨p, vs, u, o3, hv, hs, ha, sl, ru⟩ := r.item b2.le hd hj hdj
          refine done hv hs ha ?_
          by_cases sz : scal z = true
          · simp only [sz, if_true] at h2
            exact h2.fin0 g A2 sz (ru.scal sz).2
          · simp only [sz] at h2
            have sub : ∀ a ∈ o3, a ∈ o1 ∨ a ∈ o2 := fun a m => .inl (sl.subset m)
            refine h2 u (b2.out fun a => b.OX a ∨ a ∈ o3) o3 (g1.comp g2 (sl.nodup g1.nd) sub) (g1.atComp g2 sub A2) (.own (ru.mono (Bs.out_phi b2 fun a q => ?_) (List.prefix_refl _) fun _ _ _ q => q))
            rcases q with q | q
            · exact (g.ox a).mpr (.inl q)
            · exact (g.ox a).mpr (.inr (List.mem_append_left _ (sl.subset q)))
        | @bor k d _ o4 r n =>
          obtain ⟨p, vs, u, o3, hv, hs, ha, sl, ru⟩ := r.item b2.le hd hj hdj
          refine done hv hs ha ?_
          by_cases sz : scal z = true
          · simp only [sz, if_true] at h2
            exact h2.fin0 g A2 sz (ru.scal sz).2
          · simp only [sz] at h2
            by_cases hk : k ≤ 1
            · simp only [hk, if_true] at h2
              have k0 : k - 1 = 0 := by omega
              rw [k0] at ru
              exact h2 u (b2.out b.OX) [] g.drop (At.drop g A2) (.own (.frz (ru.zero.2.mono g.outLe (List.prefix_refl _))))
            · simp only [hk] at h2
              exact h2 u (b2.out b.OX) [] g.drop (At.drop g A2) (.bor (ru.mono g.outLe (List.prefix_refl _) fun _ _ _ q => q) fun a m => n a (sl.subset m))
      have hz' := hz
      unfold idxD at hz
      split at hz
      · rename_i ds i e1 e2
        obtain ⟨j, hj, hz⟩ := Option.bind_eq_some_iff.mp hz
        exact seq ds i (.inl e1) e2 j hj hz
      · rename_i ds i e1 e2
        obtain ⟨j, hj, hz⟩ := Option.bind_eq_some_iff.mp hz
        exact seq ds i (.inr e1) e2 j hj hz
      · rename_i t i e1 e2
        rw [e1] at sX
        rw [e2] at sY
        split at hz
        · rename_i hl
          obtain ⟨c, hc, rfl⟩ := Option.map_eq_some_iff.mp hz
          obtain ⟨j, hj, hc⟩ := Option.bind_eq_some_iff.mp hc
          refine .inr (.inr ⟨sv t, i, c, sX.str', sY.int', by rw [svLen]; exact limLe hl, ?_, ?_⟩)
          · unfold atI
            simp only [List.toList_toArray]
            rw [← ixN_eq, hj]
            exact hc
          · have hall := sX.strAll
            rw [List.all_eq_true] at hall
            have hc1 : c < 1114112 := by simpa using hall c (List.mem_of_getElem? hc)
            exact h2.fin0 g A2 rfl (.str (Φ := fun _ => none) [c] (by simp [hc1]))
        · cases hz
      · cases hz
end
end BT
end

section
/-! BtMk: what makes new lists out of what is at hand. -/
namespace BT
open PySem PySem.Spec L2
open PyProof.Rows hiding St
open AutoSeq1 (wpAny_loadPart')
set_option autoImplicit false
section
variable {X : Cx}
/-- list + list, of any lists -/
def rCatL (K : PySem.W.Frag) : R2 := fun x y H Q => ∃ l b xs zs, x = .ref l ∧ y = .ref b ∧ SqL K H l xs ∧ SqL K H b zs ∧ xs.length + zs.length ≤ sizeLine ∧ ∀ p, H p = none → Q (.ref p) (upd H p (.lst (xs ++ zs)))
theorem op_catL : OpR X (binaryOp .Add) (rCatL X.K) := by
  intro pins s σ H x y v u Q I rx ry h
  obtain ⟨l, b, xs, zs, rfl, rfl, hH, hB, hz, q⟩ := h
  cases rx
  cases ry
  obtain ⟨its, r, p1, _⟩ := I.list hH
  obtain ⟨its2, r2, p2, _⟩ := I.list hB
  have hl := p1.isList
  have hb := p2.isList
  obtain ⟨⟨cls, dd, data, sl⟩, ho, hc, n, hd⟩ := id hl
  obtain ⟨⟨cls2, dd2, data2, sl2⟩, ho2, hc2, n2, hd2⟩ := id hb
  simp only at hc hd hc2 hd2
  subst hc hd hc2 hd2
  have e : its.toArray ++ its2.toArray = (its ++ its2).toArray := by simp
  refine concat_meets ⟨_, ho, rfl⟩ ⟨_, ho2, rfl⟩ PySem.noFill_list_add PySem.seq_list_add PySem.F.slot_list_add PySem.F.entry_list_add (PySem.F.args_list_add_2 _ _)
    (list_addW l b its.toArray its2.toArray n n2 dd dd2 sl sl2 (by rw [List.size_toArray, List.size_toArray, ← r.length, ← r2.length]; exact hz)) ⟨ho, ho2, ?_⟩
  rw [e]
  exact ⟨.ref _, _, I.lnew (t' := s.toks) (r.append r2) (by rw [List.length_append]; omega), rfl, q _ I.fresh⟩
end
section
variable {T : Tb} {b b' b1 b2 : Bs} {σ : St} {s s' s1 : S} {o o' o1 : List Addr} {ds : List D} {x : EV} {v : V} {vs : List V} {W : WX} {Q : VK}
/-- a new list of frozen items is the answer -/
theorem fin_lst {p : Addr} (g1 : Go b b1 o1) (A : At T b s σ) (A1 : At T b1 s1 σ) (fr : RpL T b1.ρ (b1.out b.OX).Φ ds vs) (np : b1.H p = none) (h : Post T b σ (EvR T) (.ok (.own 1 (.lst ds)) s1) Q W) : Q (.ref p) (upd b1.H p (.lst vs)) := by
  have sub : ∀ a ∈ ([] : List Addr), a ∈ o1 := fun a m => by simp at m
  have e : Same (b1.out b.OX).Φ (b.fresh b1 p (.lst vs) []).Φ := hid_mono fun a u e n => by
    refine ⟨fun z => ?_, fresh_same np a u e⟩
    rcases z with (z | z) | z
    · exact n (.inl z)
    · rcases List.mem_cons.mp z with z | z
      · have : b1.H a = some u := e
        rw [z, np] at this; cases this
      · simp at z
    · exact n (.inr z)
  exact h (.ref p) (b.fresh b1 p (.lst vs) []) [p] (g1.fresh A A1 np List.nodup_nil sub) (At.fresh g1 A1 np sub)
    (.own (.lst upd_same (RpKL.ofL (fr.mono e (List.prefix_refl _)))))
/-- the items of a list at hand, frozen -/
theorem EvR.items (g1 : Go b b1 o1) (A1 : At T b1 s1 σ) (E : EvR T b1 x v o) (sub : ∀ a ∈ o, a ∈ o1) (hs : x.sees = true) (hd : x.d = .lst ds) : ∃ p vs, v = .ref p ∧ SqL T.K b1.H p vs ∧ RpL T b1.ρ (b1.out b.OX).Φ ds vs := by
  have le : Same (b1.out b.OX).Φ b1.H := (b1.out b.OX).le
  cases E with
  | own r =>
    have hd : _ = D.lst ds := hd
    subst hd
    obtain ⟨p, vs, rfl, hq, hl⟩ := (r.freeze g1.outLe (List.prefix_refl _) fun a m => g1.vis A1 a (sub a m)).lst'
    exact ⟨p, vs, rfl, same_l le hq, hl⟩
  | @bor k d _ o4 r n =>
    have hd : d = D.lst ds := hd
    subst hd
    have hk : k ≤ 1 := by simpa [EV.sees] using hs
    cases r with
    | sc s h => cases s
    | frz h =>
      obtain ⟨p, vs, rfl, hq, hl⟩ := (h.mono g1.outLe (List.prefix_refl _)).lst'
      exact ⟨p, vs, rfl, same_l le hq, hl⟩
    | @lst k' _ _ _ _ h hl =>
      have : k' = 0 := by omega
      subst this
      exact ⟨_, _, rfl, SqL.of h, hl.zero.2.mono g1.outLe (List.prefix_refl _)⟩
end
end BT
end

section
/-! BtSlice: slices. -/
namespace BT
open PySem PySem.Spec L2
open PyProof.Rows hiding St
set_option autoImplicit false
theorem sx_eq (n d : Nat) (o : Option Int) : BT.sx n d o = HT.sIx n d o := rfl
section
variable {T : Tb} {C : CF} {W : WX} {X : Cx} {pos p2 : Pos} {e : Expr} {ca : CE} {lo hi : Option Expr} {cl ch : CO}
def tO (T : Tb) (C : CF) (W : WX) (c : CO) : TO := fun σ H Q => ∃ b s, b.H = H ∧ At T b s σ ∧ Post T b σ (fun _ a w o => w = a ∧ o = []) (evalO C c s) Q W
theorem PO.weak {X : Cx} {e : Option Expr} {t t' : TO} (h : PO X e t) (w : ∀ σ H Q, t' σ H Q → t σ H Q) : PO X e t' := ⟨fun pins s σ H Q I q => h.run pins s σ H Q I (w σ H Q q)⟩
theorem snd_ono : PO X none (tO T C W .non) := PO.weak po_none fun σ H Q ⟨b, s, eH, A, h⟩ => by
  subst eH
  exact h none b [] (Go.refl b) A ⟨rfl, rfl⟩
theorem snd_oso (ha : PE X e (tE T C W ca)) : PO X (some e) (tO T C W (.som ca)) := PO.weak (po_some ha) fun σ H Q ⟨b, s, eH, A, h⟩ => by
  subst eH
  unfold evalO at h
  refine ⟨b, s, rfl, A, (Post.seq (Go.refl b) h).mono fun v H1 ⟨x, s1, b1, o1, e1, g1, A1, E1, h1⟩ => ?_⟩
  subst e1
  have see := E1.see
  split at h1
  · rename_i i e
    rw [e] at see
    exact ⟨i, see.int', h1 (some i) (b1.out b.OX) [] g1.drop (At.drop g1 A1) ⟨rfl, rfl⟩⟩
  · exact h1.elim
end
section
variable {T : Tb} {b b' b1 b2 : Bs} {σ : St} {s s' s1 : S} {o o' o1 : List Addr} {ds : List D} {x : EV} {v : V} {vs : List V} {W : WX} {Q : VK}
/-- the items of a tuple at hand, frozen -/
theorem EvR.itemsT (g1 : Go b b1 o1) (A1 : At T b1 s1 σ) (E : EvR T b1 x v o) (sub : ∀ a ∈ o, a ∈ o1) (hs : x.sees = true) (hd : x.d = .tup ds) : ∃ p vs, v = .ref p ∧ SqT T.K (b1.out b.OX).Φ p vs ∧ RpL T b1.ρ (b1.out b.OX).Φ ds vs := by
  cases E with
  | own r =>
    have hd : _ = D.tup ds := hd
    subst hd
    obtain ⟨p, vs, rfl, hq, hl⟩ := (r.freeze g1.outLe (List.prefix_refl _) fun a m => g1.vis A1 a (sub a m)).tup'
    exact ⟨p, vs, rfl, hq, hl⟩
  | @bor k d _ o4 r n =>
    have hd : d = D.tup ds := hd
    subst hd
    have hk : k ≤ 1 := by simpa [EV.sees] using hs
    cases r with
    | sc s h => cases s
    | frz h =>
      obtain ⟨p, vs, rfl, hq, hl⟩ := (h.mono g1.outLe (List.prefix_refl _)).tup'
      exact ⟨p, vs, rfl, hq, hl⟩
    | @tup k' _ _ _ _ h hl =>
      have : k' = 0 := by omega
      subst this
      exact ⟨_, _, rfl, same_t g1.outLe h, hl.zero.2.mono g1.outLe (List.prefix_refl _)⟩
theorem RpL.drop {ρ : List Addr} {Φ : Hp} : ∀ {ds : List D} {vs : List V} (n : Nat), RpL T ρ Φ ds vs → RpL T ρ Φ (ds.drop n) (vs.drop n)
  | _, _, 0, h => h
  | _, _, n + 1, .nil => .nil
  | _, _, n + 1, .cons _ l => RpL.drop n l
theorem RpL.take {ρ : List Addr} {Φ : Hp} : ∀ {ds : List D} {vs : List V} (n : Nat), RpL T ρ Φ ds vs → RpL T ρ Φ (ds.take n) (vs.take n)
  | _, _, 0, h => .nil
  | _, _, n + 1, .nil => .nil
  | _, _, n + 1, .cons h l => .cons h (RpL.take n l)
theorem RpL.cut {ρ : List Addr} {Φ : Hp} (lo hi : Option Int) (h : RpL T ρ Φ ds vs) : RpL T ρ Φ (cutD ds lo hi) (cutV vs lo hi) := by
  unfold cutD cutV
  rw [h.len]
  exact RpL.take _ (RpL.drop _ h)
/-- a new tuple of frozen items is the answer -/
theorem fin_tup {p : Addr} (g1 : Go b b1 o1) (A1 : At T b1 s1 σ) (fr : RpL T b1.ρ (b1.out b.OX).Φ ds vs) (np : b1.H p = none) (h : Post T b σ (EvR T) (.ok (.own 0 (.tup ds)) s1) Q W) : Q (.ref p) (upd b1.H p (.tup vs)) := by
  have A1' := At.drop g1 A1
  have np' : (b1.out b.OX).H p = none := np
  have hs : Same (b1.out b.OX).H (upd (b1.out b.OX).H p (.tup vs)) := fresh_same np'
  exact h (.ref p) ((b1.out b.OX).heap (upd (b1.out b.OX).H p (.tup vs))) [] (g1.drop.grows hs) (A1'.grows hs)
    (.own (.frz (.tup (SqT.of (grow_at A1' np')) (fr.mono (grow_phi np') (List.prefix_refl _)))))
end
section
variable {T : Tb} {C : CF} {W : WX} {X : Cx} {pos p2 : Pos} {e : Expr} {ca : CE} {lo hi : Option Expr} {cl ch : CO}
theorem snd_sl (hK : X.K = T.K) (ha : PE X e (tE T C W ca)) (hl : PO X lo (tO T C W cl)) (hh : PO X hi (tO T C W ch)) : PE X (.Subscript e (.Slice lo hi none p2) pos) (tE T C W (.sl ca cl ch)) :=
  PE.weak (pe_slice (sl_str.or (sl_list.or sl_tupA)) ha hl hh) fun σ H Q ⟨b, s, eH, A, h⟩ => by
    subst eH
    unfold evalE at h
    refine ⟨b, s, rfl, A, (Post.seq (Go.refl b) h).mono fun v H1 ⟨x, s1, b1, o1, e1, g1, A1, E1, h1⟩ => ?_⟩
    subst e1
    refine ⟨b1, s1, rfl, A1, (Post.seq g1 h1).mono fun l H2 ⟨l', s2, b2, o2, e2, g2, A2, E2, h2⟩ => ?_⟩
    subst e2
    obtain ⟨rfl, rfl⟩ := E2
    have g12 := g1.trans g2
    refine ⟨b2, s2, rfl, A2, (Post.seq g12 h2).mono fun u H3 ⟨u', s3, b3, o3, e3, g3, A3, E3, h3⟩ => ?_⟩
    subst e3
    obtain ⟨rfl, rfl⟩ := E3
    have g := g12.trans g3
    have E := (E1.move g2 (g1.dis A1)).move g3 (fun a m => g12.dis A2 a (List.mem_append_left _ m))
    have sub : ∀ a ∈ o1, a ∈ o1 ++ [] ++ [] := fun a m => by simpa using m
    have see := E.see
    split at h3
    · rename_i t ex
      rw [ex] at see
      split at h3
      · rename_i ht
        refine .inl ⟨sv t, see.str', by rw [svLen]; exact limLe ht, ?_⟩
        have ec : cutS (sv t) l u = sv (cutD t l u) := by
          unfold cutS cutD
          rfl
        rw [ec]
        refine h3.fin0 g A3 rfl (.str (Φ := fun _ => none) _ ?_)
        have hall := see.strAll
        rw [List.all_eq_true] at hall ⊢
        exact fun c m => hall c (List.mem_of_mem_drop (List.mem_of_mem_take m))
      · exact h3.elim
    · rename_i ds ex
      by_cases hc : x.sees = true
      · simp only [hc, if_true] at h3
        obtain ⟨p, vs, rfl, s1', r1⟩ := E.items g A3 sub hc ex
        rw [← hK] at s1'
        exact .inr (.inl ⟨p, vs, rfl, s1', fun z np => fin_lst g A A3 (r1.cut l u) np h3⟩)
      · simp only [hc] at h3; exact h3.elim
    · rename_i ds ex
      by_cases hc : x.sees = true
      · simp only [hc, if_true] at h3
        obtain ⟨p, vs, rfl, s1', r1⟩ := E.itemsT g A3 sub hc ex
        refine .inr (.inr ⟨p, vs, rfl, by rw [hK]; exact same_t (b3.out b.OX).le s1', fun hw => ?_, fun _ z np => fin_tup g A3 (r1.cut l u) np h3⟩)
        have ed : cutD ds l u = ds := by
          unfold cutD
          rw [sx_eq, sx_eq, r1.len, hw.1, hw.2, List.drop_zero, Nat.sub_zero, ← r1.len, List.take_length]
        rw [ed] at h3
        exact h3 (.ref p) (b3.out b.OX) [] g.drop (At.drop g A3) (.own (.frz (.tup s1' r1)))
      · simp only [hc] at h3; exact h3.elim
    · exact h3.elim
end
section
variable {T : Tb} {C : CF} {W : WX} {X : Cx} {pos p : Pos} {e : Expr} {ca : CE}
theorem bt_boot_list0 : bootBuiltins "list" = some (.type "list") := by decide +kernel
/-- list(x) -/
theorem snd_lof (hK : X.K = T.K) (hg : Gl X "list") (hm : X.mg "list" = none) (ha : PE X e (tE T C W ca)) (hs : starEach [e] X.env = (false, eval e X.env) :: starEach [] X.env) : PE X (.Call (.Name "list" p) [e] [] pos) (tE T C W (.lof ca)) :=
  PE.weak (pe_callTy call_list_of hg hm bt_boot_list0 (pa_cons ha pa_nil hs) (by decide) (by decide) hs rfl) fun σ H Q ⟨b, s, eH, A, h⟩ => by
    subst eH
    unfold evalE at h
    refine ⟨b, s, rfl, A, (Post.seq (Go.refl b) h).mono fun v H1 ⟨x, s1, b1, o1, e1, g1, A1, E1, h1⟩ => ?_⟩
    subst e1
    split at h1
    · rename_i ds ex
      by_cases hc : x.sees = true
      · simp only [hc, if_true] at h1
        obtain ⟨p, vs, rfl, s1', r1⟩ := E1.items g1 A1 (fun _ m => m) hc ex
        rw [← hK] at s1'
        exact ⟨p, vs, rfl, .inl s1', fun z np => fin_lst g1 A A1 r1 np h1⟩
      · simp only [hc] at h1; exact h1.elim
    · rename_i ds ex
      by_cases hc : x.sees = true
      · simp only [hc, if_true] at h1
        obtain ⟨p, vs, rfl, s1', r1⟩ := E1.itemsT g1 A1 (fun _ m => m) hc ex
        exact ⟨p, vs, rfl, .inr (by rw [hK]; exact same_t (b1.out b.OX).le s1'), fun z np => fin_lst g1 A A1 r1 np h1⟩
      · simp only [hc] at h1; exact h1.elim
    · exact h1.elim
/-- tuple(x) -/
theorem snd_tof (hK : X.K = T.K) (hg : Gl X "tuple") (hm : X.mg "tuple" = none) (ha : PE X e (tE T C W ca)) (hs : starEach [e] X.env = (false, eval e X.env) :: starEach [] X.env) : PE X (.Call (.Name "tuple" p) [e] [] pos) (tE T C W (.tof ca)) :=
  PE.weak (pe_tupleOf hg hm ha hs) fun σ H Q ⟨b, s, eH, A, h⟩ => by
    subst eH
    unfold evalE at h
    refine ⟨b, s, rfl, A, (Post.seq (Go.refl b) h).mono fun v H1 ⟨x, s1, b1, o1, e1, g1, A1, E1, h1⟩ => ?_⟩
    subst e1
    split at h1
    · rename_i ds ex
      by_cases hc : x.sees = true
      · simp only [hc, if_true] at h1
        obtain ⟨p, vs, rfl, s1', r1⟩ := E1.items g1 A1 (fun _ m => m) hc ex
        rw [← hK] at s1'
        exact .inl ⟨p, vs, rfl, s1', fun z np => fin_tup g1 A1 r1 np h1⟩
      · simp only [hc] at h1; exact h1.elim
    · rename_i ds ex
      by_cases hc : x.sees = true
      · simp only [hc, if_true] at h1
        obtain ⟨p, vs, rfl, s1', r1⟩ := E1.itemsT g1 A1 (fun _ m => m) hc ex
        exact .inr ⟨p, vs, rfl, by rw [hK]; exact same_t (b1.out b.OX).le s1', h1 (.ref p) (b1.out b.OX) [] g1.drop (At.drop g1 A1) (.own (.frz (.tup s1' r1)))⟩
      · simp only [hc] at h1; exact h1.elim
    · exact h1.elim
end
section
variable {T : Tb} {C : CF} {W : WX} {X : Cx} {pos : Pos} {e f : Expr} {ca cb : CE}
def rCatB (T : Tb) (K : PySem.W.Frag) : R2 := fun x y H Q => rCatL K x y H Q ∨ rCatA K x y H Q ∨ rB T .add x y H Q
theorem op_catB : OpR X (binaryOp .Add) (rCatB T X.K) := by
  intro pins s σ H x y v u Q I rx ry h
  rcases h with h | h | h
  · exact op_catL pins s σ H x y v u Q I rx ry h
  · exact op_catA pins s σ H x y v u Q I rx ry h
  · exact ob_add pins s σ H x y v u Q I rx ry h
theorem snd_cat (hK : X.K = T.K) (ha : PE X e (tE T C W ca)) (hb : PE X f (tE T C W cb)) : PE X (.BinOp e .Add f pos) (tE T C W (.cat ca cb)) :=
  PE.weak (pe_op (op_catB (T := T)) ha hb) fun σ H Q ⟨b, s, eH, A, h⟩ => by
    subst eH
    unfold evalE at h
    refine ⟨b, s, rfl, A, (Post.seq (Go.refl b) h).mono fun v H1 ⟨x, s1, b1, o1, e1, g1, A1, E1, h1⟩ => ?_⟩
    subst e1
    refine ⟨b1, s1, rfl, A1, (Post.seq g1 h1).mono fun w H2 ⟨y, s2, b2, o2, e2, g2, A2, E2, h2⟩ => ?_⟩
    subst e2
    have g := g1.trans g2
    have E := E1.move g2 (g1.dis A1)
    split at h2
    · rename_i xs ys ex ey
      by_cases hc : (x.sees && (y.sees && decide (xs.length + ys.length ≤ LIM))) = true
      · simp only [hc, if_true] at h2
        simp only [Bool.and_eq_true, decide_eq_true_eq] at hc
        obtain ⟨p, vs, rfl, s1', r1⟩ := E.items g A2 (fun a m => List.mem_append_left _ m) hc.1 ex
        obtain ⟨q, ws, rfl, s2', r2⟩ := E2.items g A2 (fun a m => List.mem_append_right _ m) hc.2.1 ey
        rw [← hK] at s1' s2'
        exact .inl ⟨p, q, vs, ws, rfl, rfl, s1', s2', by rw [← r1.len, ← r2.len]; exact limLe hc.2.2, fun z np => fin_lst g A A2 (r1.app r2) np h2⟩
      · simp only [hc] at h2; exact h2.elim
    · rename_i xs ys ex ey
      by_cases hc : (x.sees && (y.sees && decide (xs.length + ys.length ≤ LIM))) = true
      · simp only [hc, if_true] at h2
        simp only [Bool.and_eq_true, decide_eq_true_eq] at hc
        obtain ⟨p, vs, rfl, s1', r1⟩ := E.itemsT g A2 (fun a m => List.mem_append_left _ m) hc.1 ex
        obtain ⟨q, ws, rfl, s2', r2⟩ := E2.itemsT g A2 (fun a m => List.mem_append_right _ m) hc.2.1 ey
        refine .inr (.inl ⟨p, q, vs, ws, rfl, rfl, by rw [hK]; exact same_t (b2.out b.OX).le s1', by rw [hK]; exact same_t (b2.out b.OX).le s2', by rw [← r1.len, ← r2.len]; exact limLe hc.2.2, fun e => ?_, fun _ e => ?_, fun _ _ z np => fin_tup g A2 (r1.app r2) np h2⟩)
        · subst e
          cases r1
          exact h2 (.ref q) (b2.out b.OX) [] g.drop (At.drop g A2) (.own (.frz (.tup s2' r2)))
        · subst e
          cases r2
          rw [List.append_nil] at h2
          exact h2 (.ref p) (b2.out b.OX) [] g.drop (At.drop g A2) (.own (.frz (.tup s1' r1)))
      · simp only [hc] at h2; exact h2.elim
    · obtain ⟨z, hz, h3⟩ := h2.liftD
      exact .inr (.inr ⟨b2.ρ, x.d, y.d, z, E.see, E2.see, hz, fun v r => h3.fin0 g A2 (binop_scal hz) (r fun _ => none)⟩)
end
end BT
end

section
/-! BtCall: calls of defs and of built-ins. -/
namespace BT
open PySem PySem.Spec L2
open PyProof.Rows hiding St
set_option autoImplicit false

/-- the store alone -/
structure AtC (T : Tb) (b : Bs) (sto : Sto) : Prop where
  sto : RpS T b.ρ b.Φ b.H sto b.ρ b.sown
  nd : b.sown.Nodup
  ox : ∀ a ∈ b.sown, ¬ b.OX a
  oxH : ∀ a, b.OX a → Nt b.H a
  own : b.own = []
def PostC (T : Tb) (b : Bs) (out : CR) (Q : VK) (E : XK) : Prop := match out with
  | .ok k d sto' => ∀ v b' o, Go b b' o → AtC T b' sto' → RpK T b'.ρ b'.Φ b'.H k d v o → Q v b'.H
  | .exc x sto' => ∀ c d b', Go b b' [] → AtC T b' sto' → RX T b'.ρ b'.Φ x c d → E c d b'.H
  | .err => False
/-- a def's promise: what the small language's call gives -/
def spC (T : Tb) (call : List D → Sto → CR) : Sp := fun vs H Q E => ∃ b ds sto, b.H = H ∧ AtC T b sto ∧ RpL T b.ρ b.Φ ds vs ∧ PostC T b (call ds sto) Q E

section
variable {T : Tb} {b b' b1 b2 : Bs} {σ : St} {s s' s1 : S} {o o' : List Addr} {xs : List EV} {vs : List V} {W : WX}
mutual
/-- plain data names no cell of the store -/
theorem Rp.plain {ρ ρ' : List Addr} {Φ : Hp} : ∀ {d : D} {v : V}, Rp T ρ Φ d v → BT.plain d = true → Rp T ρ' Φ d v
  | _, _, .non, _ => .non
  | _, _, .bl b, _ => .bl b
  | _, _, .int i, _ => .int i
  | _, _, .str s h, _ => .str s h
  | _, _, .tup h l, p => .tup h (RpL.plain l (by simpa [BT.plain] using p))
  | _, _, .lst h l, p => .lst h (RpL.plain l (by simpa [BT.plain] using p))
  | _, _, .obj _ _ _ _, p => by simp [BT.plain] at p
  | _, _, .exn _ _ _ _ _ _, p => by simp [BT.plain] at p
  | _, _, .loc _, p => by simp [BT.plain] at p
theorem RpL.plain {ρ ρ' : List Addr} {Φ : Hp} : ∀ {d : List D} {v : List V}, RpL T ρ Φ d v → plainL d = true → RpL T ρ' Φ d v
  | _, _, .nil, _ => .nil
  | _, _, .cons h l, p => by
    simp only [plainL, Bool.and_eq_true] at p
    exact .cons (Rp.plain h p.1) (RpL.plain l p.2)
end
theorem plainL_of {xs : List EV} (h : xs.all (fun e => plain e.d) = true) : plainL (xs.map EV.d) = true := by
  induction xs with
  | nil => rfl
  | cons x xs ih =>
    rw [List.all_cons, Bool.and_eq_true] at h
    simp only [List.map_cons, plainL, Bool.and_eq_true]
    exact ⟨h.1, ih h.2⟩
theorem RpL.scal {ρ : List Addr} {Φ Φ2 : Hp} : ∀ {ds : List D} {vs : List V}, RpL T ρ Φ ds vs → ds.all BT.scal = true → RpL T ρ Φ2 ds vs
  | _, _, .nil, _ => .nil
  | _, _, .cons h l, p => by
    rw [List.all_cons, Bool.and_eq_true] at p
    exact .cons (h.scal p.1) (RpL.scal l p.2)
/-- where a callee starts: what the caller owns is owned from outside -/
def Bs.callee (b b1 : Bs) : Bs := { b1 with OX := fun a => b.OX a ∨ a ∈ b1.own, own := [] }
theorem AtC.callee (g : Go b b1 o) (A : At T b1 s1 σ) : AtC T (b.callee b1) s1.sto := by
  have sub : ∀ a, (b.OX a ∨ a ∈ b1.own) → b1.OX a ∨ a ∈ b1.own := fun a z => z.imp (fun q => (g.ox a).mpr (.inl q)) id
  refine ⟨A.sto.mono (hid_less fun a z => ?_) (List.prefix_refl _) fun _ _ _ q => q, (List.nodup_append.mp A.nd).2.1, fun a m z => ?_, fun a z => ?_, rfl⟩
  · rcases z with z | z
    · rcases sub a z with z | z
      · exact .inl z
      · exact .inr (List.mem_append_left _ z)
    · exact .inr (List.mem_append_right _ z)
  · rcases sub a z with z | z
    · exact A.ox a (List.mem_append_right _ m) z
    · exact (List.nodup_append.mp A.nd).2.2 a z a m rfl
  · rcases sub a z with z | z
    · exact A.oxH a z
    · exact A.ownH a (.inr (List.mem_append_left _ z))
theorem callee_phi (b b1 : Bs) : (b.callee b1).Φ = (b1.out b.OX).Φ := by
  unfold Bs.Φ
  congr 1
  funext a
  apply propext
  constructor
  · rintro ((z | z) | z)
    · exact .inl z
    · exact .inr (List.mem_append_left _ z)
    · exact .inr (List.mem_append_right _ z)
  · rintro (z | z)
    · exact .inl (.inl z)
    · rcases List.mem_append.mp z with z | z
      · exact .inl (.inr z)
      · exact .inr z
/-- back from the callee -/
def Bs.back (b b1 b' : Bs) (o : List Addr) : Bs := { b' with OX := fun a => b.OX a ∨ a ∈ o, own := b1.own, H0 := b1.H0, so0 := b1.so0 }
theorem Go.back (g : Go b b1 o) (g' : Go (b.callee b1) b' o') (A : At T b1 s1 σ) : Go b (b.back b1 b' o') o' where
  adv := by
    refine ⟨fun a u h n => ?_, fun a u h => ?_, fun a h => ?_, fun a m => ?_, fun a m => ?_⟩
    · refine g'.adv.same a u (g.adv.same a u h n) fun m => ?_
      rcases g.adv.ssub a m with q | q
      · exact n q
      · rw [h] at q; cases q
    · obtain ⟨u', h'⟩ := g.adv.there a u h
      exact g'.adv.there a u' h'
    · exact g'.adv.nt a (g.adv.nt a h)
    · rcases List.mem_append.mp m with m | m
      · rcases g'.adv.sub a (List.mem_append_left _ m) with z | z
        · exact absurd z List.not_mem_nil
        · exact .inr (g.adv.gone z)
      · exact g.adv.sub a (List.mem_append_right _ m)
    · rcases g'.adv.ssub a m with q | q
      · exact g.adv.ssub a q
      · exact .inr (g.adv.gone q)
  pre := g.pre.trans g'.pre
  h0 := g.h0
  so := g.so
  nd := g'.nd
  no := fun a m z => g'.no a m (.inl z)
  ox := fun a => Iff.rfl
theorem back_phi (g' : Go (b.callee b1) b' o') (hb : b'.own = []) : Same b'.Φ (b.back b1 b' o').Φ := hid_less fun a z => by
  rw [hb]
  rcases z with z | z
  · refine .inl ((g'.ox a).mpr ?_)
    exact z.imp .inl id
  · rcases List.mem_append.mp z with z | z
    · exact .inl ((g'.ox a).mpr (.inl (.inr z)))
    · exact .inr z
theorem At.back {sto' : Sto} (g : Go b b1 o) (g' : Go (b.callee b1) b' o') (A : At T b1 s1 σ) (B : AtC T b' sto') : At T (b.back b1 b' o') { s1 with sto := sto' } σ := by
  have ns : ∀ a ∈ b1.own, a ∉ b1.sown := fun a m z => (List.nodup_append.mp A.nd).2.2 a m a z rfl
  have fro : ∀ a ∈ o', b1.H a = none := fun a m => (g'.adv.sub a (List.mem_append_left _ m)).elim (fun z => absurd z List.not_mem_nil) id
  have key : Same b1.Φ (b.back b1 b' o').Φ := hid_mono fun a u e n => by
    have nsn : a ∉ b1.sown := fun m => n (.inr (List.mem_append_right _ m))
    refine ⟨fun z => ?_, g'.adv.same a u e nsn⟩
    rcases z with (z | z) | z
    · exact n (.inl ((g.ox a).mpr (.inl z)))
    · rw [fro a z] at e; cases e
    · rcases List.mem_append.mp z with z | z
      · exact n (.inr (List.mem_append_left _ z))
      · rcases g'.adv.ssub a z with z | z
        · exact nsn z
        · have z : b1.H a = none := z
          rw [e] at z; cases z
  refine ⟨fun a u h n => ?_, fun a u h => ?_, fun a h => g'.adv.nt a (A.nt a h), A.env.mono key g'.pre fun a m u q => g'.adv.same a u q (ns a m), B.sto.mono (back_phi g' B.own) (List.prefix_refl _) fun _ _ _ q => q, ?_, A.new, fun a m => ?_, fun a m z => ?_, fun a z => ?_⟩
  · refine g'.adv.same a u (A.same a u h n) fun m => ?_
    rcases A.snew a m with z | z
    · exact n z
    · have h : b1.H0 a = some u := h
      rw [h] at z; cases z
  · obtain ⟨u', h'⟩ := A.there a u h
    exact g'.adv.there a u' h'
  · refine List.nodup_append.mpr ⟨(List.nodup_append.mp A.nd).1, B.nd, fun a m c mc e => ?_⟩
    subst e
    exact B.ox a mc ((g'.ox a).mpr (.inl (.inr m)))
  · rcases g'.adv.ssub a m with z | z
    · exact A.snew a z
    · exact .inr (A.gone0 z)
  · rcases List.mem_append.mp m with m | m
    · rcases z with z | z
      · exact A.ox a (List.mem_append_left _ m) ((g.ox a).mpr (.inl z))
      · exact g'.no a z (.inr m)
    · exact B.ox a m ((g'.ox a).mpr (z.imp .inl id))
  · exact B.oxH a ((g'.ox a).mpr (z.imp .inl id))
end
section
variable {T : Tb} {C : CF} {W : WX} {X : Cx} {pos p : Pos} {e : Expr} {es : List Expr} {cs : CEs} {f : Nat} {x : PySem.Str} {fa : Addr} {fd : FuncData} {ps : List PySem.Str} {k : Nat}
/-- a tuple is never hidden -/
theorem At.tupVis {b : Bs} {s : S} {σ : St} {a : Addr} {vs : List V} (A : At T b s σ) (h : Rd b.H a (.tup vs)) : Rd b.Φ a (.tup vs) := by
  have n : ¬ Own b.OX (b.own ++ b.sown) a := fun z => by
    obtain ⟨u, hu, ht⟩ := A.ownH a z
    rcases h with h | ⟨o, h⟩
    · rw [hu] at h; cases h; cases ht
    · rw [hu] at h; cases h; cases ht
  unfold Bs.Φ
  rcases h with h | ⟨o, h⟩
  · exact .inl (by rw [hid_at n]; exact h)
  · exact .inr ⟨o, by rw [hid_at n]; exact h⟩
mutual
theorem Rp.noL {ρ ρ' : List Addr} {b : Bs} {s : S} {σ : St} (A : At T b s σ) : ∀ {d : D} {v : V}, Rp T ρ b.H d v → BT.noL d = true → Rp T ρ' b.Φ d v
  | _, _, .non, _ => .non
  | _, _, .bl b, _ => .bl b
  | _, _, .int i, _ => .int i
  | _, _, .str s h, _ => .str s h
  | _, _, .tup h l, p => .tup (h.imp (fun q => A.tupVis q) id) (RpL.noL A l (by simpa [BT.noL] using p))
  | _, _, .lst h l, p => by simp [BT.noL] at p
  | _, _, .obj _ _ _ _, p => by simp [BT.noL] at p
  | _, _, .exn _ _ _ _ _ _, p => by simp [BT.noL] at p
  | _, _, .loc _, p => by simp [BT.noL] at p
theorem RpL.noL {ρ ρ' : List Addr} {b : Bs} {s : S} {σ : St} (A : At T b s σ) : ∀ {d : List D} {v : List V}, RpL T ρ b.H d v → noLL d = true → RpL T ρ' b.Φ d v
  | _, _, .nil, _ => .nil
  | _, _, .cons h l, p => by
    simp only [noLL, Bool.and_eq_true] at p
    exact .cons (Rp.noL A h p.1) (RpL.noL A l p.2)
end
/-- the arguments are evaluated, the def is called -/
theorem call_core {b : Bs} {s : S} {σ : St} {Q : VK} (A : At T b s σ) (h : Post T b σ (EvR T) (evalE C (.call f cs) s) Q W) :
    tEs T C W cs σ b.H fun vs H1 => spC T (C f) vs H1 Q (WE W σ) := by
  unfold evalE at h
  refine ⟨b, s, rfl, A, (Post.seq (Go.refl b) h).mono fun vs H1 ⟨xs, s1, b1, o1, e1, g1, A1, E1, h1⟩ => ?_⟩
  subst e1
  by_cases hf : xs.all EV.free = true
  · simp only [hf, if_true] at h1
    have fr := E1.frz (g1.outLe) (g1.vis A1) (by
      rw [List.all_eq_true] at hf ⊢
      exact fun x m => by rw [hf x m, Bool.or_true])
    refine ⟨b.callee b1, xs.map EV.d, s1.sto, rfl, AtC.callee g1 A1, by rw [callee_phi]; exact fr, ?_⟩
    cases hc : C f (xs.map EV.d) s1.sto with
    | err => rw [hc] at h1; exact h1
    | ok k d sto' =>
      rw [hc] at h1
      intro v b' o' g' B r
      exact h1 v (b.back b1 b' o') o' (g1.back g' A1) (At.back g1 g' A1 B) (.own (r.mono (back_phi g' B.own) (List.prefix_refl _) fun _ _ _ q => q))
    | exc x sto' =>
      rw [hc] at h1
      intro c d b' g' B r
      exact h1 c d (b.back b1 b' []) (g1.back g' A1) (At.back g1 g' A1 B) (r.mono (back_phi g' B.own) (List.prefix_refl _))
  · simp only [hf] at h1
    by_cases hp : xs.all (fun e => plain e.d) = true
    · simp only [hp, if_true] at h1
      let bc : Bs := { b1 with OX := fun _ => False, own := [], sown := [], ρ := [] }
      have hΦ : Same b1.H bc.Φ := fun a u q => by
        unfold Bs.Φ
        rw [hid_at]
        · exact q
        · rintro (z | z)
          · exact z
          · exact absurd z List.not_mem_nil
      refine ⟨bc, xs.map EV.d, [], rfl, ⟨.nil, List.nodup_nil, fun a m => absurd m List.not_mem_nil, fun a z => z.elim, rfl⟩, (E1.see.mono hΦ (List.prefix_refl _)).plain (plainL_of hp), ?_⟩
      have hs : ∀ {b' : Bs} {o' : List Addr}, Go bc b' o' → Same b1.H b'.H := fun {b' o'} g' a u q => g'.adv.same a u q List.not_mem_nil
      cases hc : C f (xs.map EV.d) [] with
      | err => rw [hc] at h1; exact h1
      | ok k d sto' =>
        rw [hc] at h1
        by_cases hd : noL d = true
        · simp only [hd, if_true] at h1
          intro v b' o' g' B r
          have A1' := (At.drop g1 A1).grows (hs g')
          have r0 : Rp T b'.ρ ((b1.out b.OX).heap b'.H).H d v := r.see b'.le
          exact h1 v ((b1.out b.OX).heap b'.H) [] (g1.drop.grows (hs g')) A1' (.own (.frz (r0.noL A1' hd)))
        · simp only [hd, Bool.false_eq_true, if_false] at h1
          split at h1
          · rename_i ds
            by_cases hn : noLL ds = true
            · simp only [hn, if_true] at h1
              intro v b' o' g' B r
              cases r with
              | sc s _ => cases s
              | @lst _ _ a vs o2 hH hl =>
                obtain ⟨e0, hl0⟩ := hl.zero
                subst e0
                have np : b1.H a = none := by
                  rcases g'.adv.sub a (List.mem_append_left _ List.mem_cons_self) with z | z
                  · exact absurd z List.not_mem_nil
                  · exact z
                have sub : ∀ x ∈ ([] : List Addr), x ∈ o1 := fun x m => absurd m List.not_mem_nil
                have hs2 : Same (b.fresh b1 a (.lst vs) []).H b'.H := fun x u q => by
                  by_cases z : x = a
                  · subst z
                    have q : upd b1.H x (.lst vs) x = some u := q
                    rw [upd_same] at q
                    rw [← q]; exact hH
                  · have q : upd b1.H a (.lst vs) x = some u := q
                    rw [upd_ne z] at q
                    exact hs g' x u q
                have A2 : At T ((b.fresh b1 a (.lst vs) []).heap b'.H) s1 σ := (At.fresh g1 A1 np sub).grows hs2
                have r0 : RpL T b'.ρ ((b.fresh b1 a (.lst vs) []).heap b'.H).H ds vs := hl0.mono b'.le (List.prefix_refl _)
                exact h1 (.ref a) ((b.fresh b1 a (.lst vs) []).heap b'.H) [a] ((g1.fresh A A1 np List.nodup_nil sub).grows hs2) A2 (.own (.lst hH (RpKL.ofL (r0.noL A2 hn))))
            · simp only [hn] at h1; exact h1.elim
          · exact h1.elim
      | exc x sto' =>
        rw [hc] at h1
        simp only [Bool.false_eq_true, if_false] at h1
        exact h1.elim
    · simp only [hp] at h1; exact h1.elim

/-- f(e, ..), f a def of the text -/
theorem snd_call (F : FnOk X.prog X.w X.K X.mg X.base (L2.CX X.prog X.w) k fa fd ps (spC T (C f))) (hr : Room k X.A) (hg : Gl X x) (hm : X.mg x = some (.ref fa)) (hk : PySem.W.keepIn X.K (.ref fa) = true) (hb : Binds X.K fd ps []) (tk : Takes X W)
    (ha : PA X (e :: es) (tEs T C W cs)) (hdb : (x == ("__debug__" : PySem.Str)) = false) (he : starEach (e :: es) X.env = (false, eval e X.env) :: starEach es X.env) (hpl : (backTo pos (starEach es X.env)).any (·.1) = false) :
    PE X (.Call (.Name x p) (e :: es) [] pos) (tE T C W (.call f cs)) :=
  PE.weak (pe_callSD (dvs := []) (E := WE W) F hr hg hm hk hb .nil (fun σ => passAt tk σ) ha hdb he hpl) fun σ H Q ⟨b, s, eH, A, h⟩ => by
    subst eH
    obtain ⟨b', s', e1, A', h'⟩ := call_core A h
    exact ⟨b', s', e1, A', h'.mono fun vs H1 q => by rw [List.append_nil]; exact q⟩

/-! ### built-ins -/
/-- a built-in's answer is a scalar that the data tell -/
def rBI (T : Tb) (f : BI) : List V → Hp → VK → Prop := fun vs H Q => ∃ ρ ds z, RpL T ρ H ds vs ∧ biD f ds = some z ∧ ∀ v, (∀ Φ, Rp T ρ Φ z v) → Q v H
theorem biD_scal {f : BI} {ds : List D} {z : D} (h : biD f ds = some z) : scal z = true := by
  unfold biD at h
  split at h <;> (try split at h) <;> first | contradiction | (obtain ⟨_, _, rfl⟩ := Option.map_eq_some_iff.mp h; rfl) | (cases h; rfl)
theorem bi_weak {f : BI} {b : Bs} {s : S} {σ : St} {Q : VK} (A : At T b s σ) (h : Post T b σ (EvR T) (evalE C (.bi f cs) s) Q W) : tEs T C W cs σ b.H fun vs H1 => rBI T f vs H1 Q := by
  unfold evalE at h
  refine ⟨b, s, rfl, A, (Post.seq (Go.refl b) h).mono fun vs H1 ⟨xs, s1, b1, o1, e1, g1, A1, E1, h1⟩ => ?_⟩
  subst e1
  obtain ⟨z, hz, h2⟩ := h1.liftD
  exact ⟨b1.ρ, xs.map EV.d, z, E1.see, hz, fun v r => h2.fin0 g1 A1 (biD_scal hz) (r fun _ => none)⟩
theorem cr_len (hK : X.K = T.K) : CallR X (.builtin "len") (rBI T .len) := by
  rintro pins s σ H vs us Q I r ⟨ρ, ds, z, rl, hz, k⟩
  unfold biD at hz
  split at hz <;> try contradiction
  · rename_i t
    split at hz
    · rename_i hl
      cases hz
      cases rl with
      | cons h l =>
        cases l
        rw [h.str'] at r
        refine call_len pins s σ H _ us Q I r ⟨_, _, rfl, ⟨by rw [svLen]; exact limLe hl, rfl⟩, ?_⟩
        rw [svLen]
        exact k _ fun Φ => .int _
    · cases hz
  · cases hz
    cases rl with
    | cons h l =>
      cases l
      obtain ⟨a, ws, rfl, hs, hl⟩ := h.tup'
      refine call_len pins s σ H _ us Q I r ⟨_, _, rfl, .inr ⟨ws, by rw [hK]; exact hs, rfl⟩, ?_⟩
      rw [← hl.len]
      exact k _ fun Φ => .int _
  · cases hz
    cases rl with
    | cons h l =>
      cases l
      obtain ⟨a, ws, rfl, hs, hl⟩ := h.lst'
      refine call_len pins s σ H _ us Q I r ⟨_, _, rfl, .inl ⟨ws, by rw [hK]; exact hs, rfl⟩, ?_⟩
      rw [← hl.len]
      exact k _ fun Φ => .int _
theorem cr_int : CallR X (.type "int") (rBI T .int) := by
  rintro pins s σ H vs us Q I r ⟨ρ, ds, z, rl, hz, k⟩
  unfold biD at hz
  split at hz <;> try contradiction
  · cases hz
    cases rl with
    | cons h l => cases l; rw [h.int'] at r; exact call_int1 pins s σ H _ us Q I r (.inl ⟨_, rfl, k _ fun Φ => .int _⟩)
  · cases hz
    cases rl with
    | cons h l => cases l; rw [h.bl'] at r; exact call_int1 pins s σ H _ us Q I r (.inr ⟨_, rfl, k _ fun Φ => .int _⟩)
  · rename_i z _
    by_cases hc : (z.all isDg && !z.isEmpty && decide (z.length ≤ 640)) = true
    · rw [if_pos hc] at hz
      cases hz
      simp only [Bool.and_eq_true, Bool.not_eq_true', decide_eq_true_eq] at hc
      obtain ⟨⟨h1, h2⟩, h3⟩ := hc
      cases rl with
      | cons h l =>
        cases l
        rw [h.str'] at r
        refine call_int_str pins s σ H _ us Q I r ⟨sv z, _, rfl, PySem.intText_digits (x := sv z) ?_ ?_ ?_, by rw [svLen]; exact h3, k _ fun Φ => .int _⟩
        · intro c m
          have := List.all_eq_true.mp h1 c (by simpa using m)
          simpa [isDg] using this
        · intro e
          have e : z = [] := by simpa using e
          rw [e] at h2
          cases h2
        · rw [svLen]; omega
    · rw [if_neg hc] at hz; cases hz
theorem cr_abs : CallR X (.builtin "abs") (rBI T .abs) := by
  rintro pins s σ H vs us Q I r ⟨ρ, ds, z, rl, hz, k⟩
  unfold biD at hz
  split at hz <;> try contradiction
  cases hz
  cases rl with
  | cons h l => cases l; rw [h.int'] at r; exact call_abs pins s σ H _ us Q I r ⟨_, rfl, k _ fun Φ => .int _⟩
theorem cr_gcdB : CallR X (.builtin "math.gcd") (rBI T .gcd) := by
  rintro pins s σ H vs us Q I r ⟨ρ, ds, z, rl, hz, k⟩
  unfold biD at hz
  split at hz <;> try contradiction
  cases hz
  cases rl with
  | cons h l =>
    cases l with
    | cons h' l =>
      cases l
      rw [h.int', h'.int'] at r
      exact L2.cr_gcd pins s σ H _ us Q I r ⟨_, _, rfl, k _ fun Φ => .int _⟩
theorem cr_max2 (hc : X.calm = true) : CallR X (.builtin "max") (rBI T .max2) := by
  rintro pins s σ H vs us Q I r ⟨ρ, ds, z, rl, hz, k⟩
  unfold biD at hz
  split at hz <;> try contradiction
  cases hz
  cases rl with
  | cons h l =>
    cases l with
    | cons h' l =>
      cases l
      rw [h.int', h'.int'] at r
      exact call_max2 hc pins s σ H _ us Q I r ⟨_, _, rfl, k _ fun Φ => .int _⟩
theorem cr_min2 (hc : X.calm = true) : CallR X (.builtin "min") (rBI T .min2) := by
  rintro pins s σ H vs us Q I r ⟨ρ, ds, z, rl, hz, k⟩
  unfold biD at hz
  split at hz <;> try contradiction
  cases hz
  cases rl with
  | cons h l =>
    cases l with
    | cons h' l =>
      cases l
      rw [h.int', h'.int'] at r
      exact call_min2 hc pins s σ H _ us Q I r ⟨_, _, rfl, k _ fun Φ => .int _⟩
theorem strI_sv (i : Int) : PySem.Str.ofString (toString i) = sv (strI i) := by
  unfold strI
  rw [PySem.Str.ofString_eq_toList] <;> rfl
theorem strI_all (i : Int) : (strI i).all (· < 1114112) = true := by
  unfold strI
  rw [List.all_eq_true]
  intro n m
  obtain ⟨c, _, rfl⟩ := List.mem_map.mp m
  have := c.valid
  have h : c.toNat < 1114112 := by
    unfold Char.toNat
    rcases this with h | h <;> omega
  simpa using h
theorem cr_strB : CallR X (.type "str") (rBI T .str) := by
  rintro pins s σ H vs us Q I r ⟨ρ, ds, z, rl, hz, k⟩
  unfold biD at hz
  split at hz <;> try contradiction
  · split at hz
    · rename_i hl
      cases hz
      cases rl with
      | cons h l =>
        cases l
        rw [h.int'] at r
        refine call_str_int pins s σ H _ us Q I r ⟨_, rfl, hl, ?_⟩
        have e := k (.str (sv (strI _))) fun Φ => .str _ (strI_all _)
        rw [← strI_sv] at e
        exact e
    · cases hz
  · cases hz
    cases rl with
    | cons h l =>
      cases l
      have hall := h.strAll
      rw [h.str'] at r
      exact SkE.call_str_str pins s σ H _ us Q I r ⟨_, rfl, k _ fun Φ => .str _ hall⟩
theorem intsD_ok {ρ : List Addr} {H : Hp} : ∀ {ds : List D} {vs : List V} {ns : List Int}, RpL T ρ H ds vs → intsD ds = some ns → vs = ns.map V.int
  | _, _, _, .nil, h => by cases h; rfl
  | _, _, _, .cons h l, e => by
    cases h with
    | int i =>
      simp only [intsD, Option.map_eq_some_iff] at e
      obtain ⟨ms, hm, rfl⟩ := e
      rw [intsD_ok l hm]
      rfl
    | _ => simp [intsD] at e
theorem cr_sumB (hK : X.K = T.K) (hc : X.calm = true) : CallR X (.builtin "sum") (rBI T .sum) := by
  rintro pins s σ H vs us Q I r ⟨ρ, ds, z, rl, hz, k⟩
  unfold biD at hz
  split at hz <;> try contradiction
  obtain ⟨ns, hn, rfl⟩ := Option.map_eq_some_iff.mp hz
  cases rl with
  | cons h l =>
    cases l
    obtain ⟨a, ws, rfl, hs, hl⟩ := h.lst'
    rw [intsD_ok hl hn] at hs
    exact cr_sum hc pins s σ H _ us Q I r ⟨a, ns, rfl, by rw [hK]; exact hs, k _ fun Φ => .int _⟩
/-- the type's name -/
def tyName : Ty → String
  | .int => "int" | .bool => "bool" | .str => "str" | .tuple => "tuple" | .list => "list"
def typOf : D → String
  | .non => "NoneType" | .bl _ => "bool" | .int _ => "int" | .str _ => "str" | .tup _ => "tuple" | .lst _ => "list" | _ => ""
theorem kit_of_isi (t : Ty) (d : D) (b : Bool) (h : isiD t d = some b) : kitB (typOf d) (tyName t) = some b := by
  cases t <;> cases d <;> simp [isiD] at h <;> subst h <;> simp only [typOf, tyName] <;> decide +kernel
theorem tyx_of {ρ : List Addr} {H : Hp} {d : D} {v : V} (r : Rp T ρ H d v) (hd : ∀ c fs, d ≠ .obj c fs) (hl : ∀ l, d ≠ .loc l) (hx : ∀ c fs, d ≠ .exn c fs) : TyX T.K H v (.type (typOf d)) := by
  cases r with
  | non => exact .base .non
  | bl b => exact .base (.bl b)
  | int i => exact .base (.int i)
  | str s _ => exact .base (.str _)
  | tup h _ =>
    rcases h with (h | ⟨o, h⟩) | ⟨o, its, n, h, c, _⟩
    · exact .base (.tup h)
    · exact .fTuple h
    · exact .kTuple h c
  | lst h _ =>
    rcases h with (h | ⟨o, h⟩) | ⟨o, its, n, h, c, _⟩
    · exact .base (.lst h)
    · exact .base (.frz h)
    · exact .kList h c
  | obj _ _ _ _ => exact absurd rfl (hd _ _)
  | loc _ => exact absurd rfl (hl _)
  | exn _ _ _ _ _ _ => exact absurd rfl (hx _ _)
def rIsT (T : Tb) (t : Ty) : List V → Hp → VK → Prop := fun vs H Q => ∃ ρ d v b, vs = [v, .ty (tyName t)] ∧ Rp T ρ H d v ∧ isiD t d = some b ∧ Q (.bl b) H
theorem cr_isT (hK : X.K = T.K) (t : Ty) : CallR X (.builtin "isinstance") (rIsT T t) := by
  rintro pins s σ H vs us Q I r ⟨ρ, d, v, b, rfl, rd, hb, q⟩
  have h1 : ∀ c fs, d ≠ .obj c fs := fun c fs e => by subst e; cases t <;> simp [isiD] at hb
  have h2 : ∀ l, d ≠ .loc l := fun l e => by subst e; cases t <;> simp [isiD] at hb
  have h3 : ∀ c fs, d ≠ .exn c fs := fun c fs e => by subst e; cases t <;> simp [isiD] at hb
  exact call_isi pins s σ H _ us Q I r ⟨v, .ty (tyName t), _, _, b, rfl, .ty _, by rw [hK]; exact tyx_of rd h1 h2 h3, kit_ty (kit_of_isi t d b hb), q⟩
end
end BT
end

section
/-! BtStmt: statements. -/
namespace BT
open PySem PySem.Spec L2
open PyProof.Rows hiding St
set_option autoImplicit false

/-- from b to b', over any statements -/
structure GoS (b b' : Bs) (o : List Addr) : Prop where
  pre : b.ρ <+: b'.ρ
  h0 : b'.H0 = b.H0
  so : b'.so0 = b.so0
  phi : Same b.Φ b'.Φ
  nd : o.Nodup
  no : ∀ a ∈ o, ¬ b.OX a
  new : ∀ a ∈ o, b.H0 a = none
  ox : ∀ a, b'.OX a ↔ (b.OX a ∨ a ∈ o)
section
variable {T : Tb} {b b' b1 b2 : Bs} {σ : St} {s s' s1 : S} {o o' : List Addr} {W : WX}
theorem Go.toS (g : Go b b' o) (A : At T b s σ) : GoS b b' o := ⟨g.pre, g.h0, g.so, g.phi, g.nd, g.no, fun a m => (g.adv.sub a (List.mem_append_left _ m)).elim (A.new a) A.gone0, g.ox⟩
theorem GoS.refl (b : Bs) : GoS b b [] := ⟨List.prefix_refl _, rfl, rfl, Same.refl _, List.nodup_nil, fun _ m => by simp at m, fun _ m => by simp at m, fun a => by simp⟩
theorem GoS.trans (g1 : GoS b b1 []) (g2 : GoS b1 b2 o) : GoS b b2 o := by
  have e : ∀ a, b1.OX a ↔ b.OX a := fun a => by rw [g1.ox]; simp
  exact ⟨g1.pre.trans g2.pre, g2.h0.trans g1.h0, g2.so.trans g1.so, g1.phi.trans g2.phi, g2.nd, fun a m z => g2.no a m ((e a).mpr z), fun a m => by rw [← g1.h0]; exact g2.new a m, fun a => by rw [g2.ox, e]⟩
end
def PostS (T : Tb) (b : Bs) (fl : Fl) (D : Ends) (W : WX) : Prop := match fl with
  | .next s' => ∀ σ' b', GoS b b' [] → At T b' s' σ' → D.nx σ' b'.H
  | .brk s' => ∀ σ' b', GoS b b' [] → At T b' s' σ' → D.bk σ' b'.H
  | .cont s' => ∀ σ' b', GoS b b' [] → At T b' s' σ' → D.ct σ' b'.H
  | .ret k d sto => ∀ v σ' b' o s', s'.sto = sto → GoS b b' o → At T b' s' σ' → RpK T b'.ρ b'.Φ b'.H k d v o → D.rt v b'.H
  | .exc x s' => ∀ σ' c d b', GoS b b' [] → At T b' s' σ' → RX T b'.ρ b'.Φ x c d → W c d σ' b'.H
  | .err => False
def tS (T : Tb) (C : CF) (Wf : Nat) (W : WX) (c : CS) : TS := fun D σ H => ∃ b s, b.H = H ∧ At T b s σ ∧ PostS T b (evalS C Wf c s) D W
def tSs (T : Tb) (C : CF) (Wf : Nat) (W : WX) (c : CSs) : TS := fun D σ H => ∃ b s, b.H = H ∧ At T b s σ ∧ PostS T b (evalSs C Wf c s) D W

section
variable {α ω : Type} {T : Tb} {b b0 b' b1 b2 : Bs} {σ : St} {s s' s1 : S} {o o0 o' : List Addr} {W : WX} {D : Ends} {R : Bs → α → ω → List Addr → Prop}
theorem PostS.shift {fl : Fl} (h : PostS T b fl D W) (g : GoS b b1 []) : PostS T b1 fl D W := by
  cases fl with
  | next s' => exact fun σ' b' g' A => h σ' b' (g.trans g') A
  | brk s' => exact fun σ' b' g' A => h σ' b' (g.trans g') A
  | cont s' => exact fun σ' b' g' A => h σ' b' (g.trans g') A
  | ret k d sto => exact fun v σ' b' o s' e g' A r => h v σ' b' o s' e (g.trans g') A r
  | exc x s' => exact fun σ' c d b' g' A r => h σ' c d b' (g.trans g') A r
  | err => exact h
/-- an evaluation ahead of a statement's work (g0: what was evaluated before) -/
theorem PostS.seq {out : Out α} {f : α → S → Fl} (A0 : At T b0 s σ) (g0 : Go b0 b o0) (h : PostS T b0 (out.fl f) D W) :
    Post T b σ R out (fun w H' => ∃ a s' b' o, b'.H = H' ∧ Go b b' o ∧ At T b' s' σ ∧ R b' a w o ∧ PostS T b0 (f a s') D W) W := by
  cases out with
  | ok a s' => exact fun w b' o g A r => ⟨a, s', b', o, rfl, g, A, r, h⟩
  | exc x s' =>
    intro c d b2 g A r
    obtain ⟨b', e, g', A', r'⟩ := g0.excOut g A r
    rw [← e]
    exact h σ c d b' (g'.toS A0) A' r'
  | err => exact h
/-- a value at hand goes into a slot -/
theorem At.put {OX : Addr → Prop} {i k : Nat} {d : BT.D} {v : V} (A : At T b s σ) (hi : i < s.env.length) (hox : ∀ a, b.OX a ↔ OX a ∨ a ∈ o) (nd : o.Nodup) (no : ∀ a ∈ o, ¬ OX a) (new : ∀ a ∈ o, b.H0 a = none) (r : RpK T b.ρ b.Φ b.H k d v o) :
    ∃ own', At T { b with OX := OX, own := own' } { s with env := s.env.set i (some (k, d)) } (σ.set i (some v)) ∧ Same b.Φ { b with OX := OX, own := own' : Bs }.Φ := by
  obtain ⟨p, m, q, e1, e4⟩ := RpE.put A.env hi
  have nd0 : ((p ++ m ++ q) ++ b.sown).Nodup := by rw [← e1]; exact A.nd
  have ox : ∀ a, a ∈ p ++ m ++ q ∨ a ∈ b.sown → ¬ b.OX a := fun a h => A.ox a (by rw [e1]; exact List.mem_append.mpr h)
  have hΦ : Same (hid b.H (Own b.OX (b.own ++ b.sown))) (hid b.H (Own OX ((p ++ o ++ q) ++ b.sown))) := hid_less fun a z => by
    rcases z with z | z
    · exact .inl ((hox a).mpr (.inl z))
    · simp only [List.mem_append] at z
      rcases z with ((z | z) | z) | z
      · exact .inr (by rw [e1]; simp [z])
      · exact .inl ((hox a).mpr (.inr z))
      · exact .inr (by rw [e1]; simp [z])
      · exact .inr (by simp [z])
  have dj : ∀ a ∈ o, ∀ c, c ∈ p ∨ c ∈ q ∨ c ∈ b.sown → a ≠ c := fun a ha c hc e => by
    subst e
    refine ox a ?_ ((hox a).mpr (.inr ha))
    simp only [List.mem_append]
    rcases hc with hc | hc | hc <;> simp [hc]
  simp only [List.nodup_append, List.mem_append] at nd0
  obtain ⟨⟨⟨n1, n2, n3⟩, n4, n5⟩, n6, n7⟩ := nd0
  refine ⟨p ++ o ++ q, ⟨A.same, A.there, A.nt, e4 hΦ (List.prefix_refl _) (fun _ _ _ h => h) k d v o (r.mono hΦ (List.prefix_refl _) fun _ _ _ h => h), A.sto.mono hΦ (List.prefix_refl _) fun _ _ _ h => h, ?_, fun a ha => ?_, A.snew, fun a ha z => ?_, fun a z => ?_⟩, hΦ⟩
  · simp only [List.nodup_append, List.mem_append]
    exact ⟨⟨⟨n1, nd, fun a ha c hc e => dj c hc a (.inl ha) e.symm⟩, n4, fun a ha c hc e => ha.elim (fun ha => n5 a (.inl ha) c hc e) fun ha => dj a ha c (.inr (.inl hc)) e⟩, n6, fun a ha c hc e => (ha.elim (Or.elim · (fun ha => n7 a (.inl (.inl ha)) c hc e) fun ha => dj a ha c (.inr (.inr hc)) e) fun ha => n7 a (.inr ha) c hc e)⟩
  · simp only [List.mem_append] at ha
    rcases ha with (ha | ha) | ha
    · exact A.new a (by rw [e1]; simp [ha])
    · exact new a ha
    · exact A.new a (by rw [e1]; simp [ha])
  · simp only [List.mem_append] at ha
    rcases ha with ((ha | ha) | ha) | ha
    · exact ox a (by simp [ha]) ((hox a).mpr (.inl z))
    · exact no a ha z
    · exact ox a (by simp [ha]) ((hox a).mpr (.inl z))
    · exact ox a (by simp [ha]) ((hox a).mpr (.inl z))
  · exact A.oxH a ((hox a).mpr (.inl z))
/-- the slot that holds the evaluated value; where one stands then -/
theorem Go.put {i k : Nat} {d : BT.D} {v : V} (A0 : At T b s σ) (g : Go b b' o) (A : At T b' s' σ) (hi : i < s'.env.length) (r : RpK T b'.ρ b'.Φ b'.H k d v o) :
    ∃ b2, b2.H = b'.H ∧ GoS b b2 [] ∧ At T b2 { s' with env := s'.env.set i (some (k, d)) } (σ.set i (some v)) := by
  have gs := g.toS A0
  obtain ⟨own', A', h⟩ := At.put A hi g.ox g.nd g.no (fun a m => by rw [g.h0]; exact gs.new a m) r
  exact ⟨{ b' with OX := b.OX, own := own' }, rfl, ⟨g.pre, g.h0, g.so, g.phi.trans h, List.nodup_nil, fun _ m => by simp at m, fun _ m => by simp at m, fun a => by simp⟩, A'⟩
theorem EvR.scal {x : EV} {v : V} (E : EvR T b x v o) (s : BT.scal x.d = true) : o = [] ∧ Rp T b.ρ b.Φ x.d v := by
  cases E with
  | own r => exact r.scal s
  | bor r _ => exact ⟨rfl, (r.scal s).2⟩
end
section
variable {T : Tb} {C : CF} {Wf : Nat} {W : WX} {X : Cx} {pos : Pos} {e f : Expr} {ce cf : CE} {st : Stmt} {sts : List Stmt} {cs : CS} {css c2 : CSs}
theorem ss_pass : PS X (.Pass pos) (tS T C Wf W .pass) := PS.weak ps_pass fun D σ H ⟨b, s, eH, A, h⟩ => by
  subst eH; exact h σ b (GoS.refl b) A
theorem ss_brk : PS X (.Break pos) (tS T C Wf W .brk) := PS.weak ps_break fun D σ H ⟨b, s, eH, A, h⟩ => by
  subst eH; exact h σ b (GoS.refl b) A
theorem ss_cont : PS X (.Continue pos) (tS T C Wf W .cont) := PS.weak ps_continue fun D σ H ⟨b, s, eH, A, h⟩ => by
  subst eH; exact h σ b (GoS.refl b) A
theorem ss_retN : PS X (.Return none pos) (tS T C Wf W .retN) := PS.weak ps_retN fun D σ H ⟨b, s, eH, A, h⟩ => by
  subst eH; exact h .non σ b [] s rfl (GoS.refl b) A (.sc rfl .non)
theorem sss_nil : PSs X [] (tSs T C Wf W .nil) := PSs.weak pss_nil fun D σ H ⟨b, s, eH, A, h⟩ => by
  subst eH; exact h σ b (GoS.refl b) A
theorem sss_cons (h1 : PS X st (tS T C Wf W cs)) (h2 : PSs X sts (tSs T C Wf W css)) : PSs X (st :: sts) (tSs T C Wf W (.cons cs css)) := PSs.weak (pss_cons h1 h2) fun D σ H ⟨b, s, eH, A, h⟩ => by
  subst eH
  unfold evalSs at h
  refine ⟨b, s, rfl, A, ?_⟩
  cases hf : evalS C Wf cs s with
  | next s' =>
    rw [hf] at h
    exact fun σ' b' g A' => ⟨b', s', rfl, A', h.shift g⟩
  | brk s' => rw [hf] at h; exact h
  | cont s' => rw [hf] at h; exact h
  | ret k d sto => rw [hf] at h; exact h
  | exc x s' => rw [hf] at h; exact h
  | err => rw [hf] at h; exact h
theorem ss_ret (he : PE X e (tE T C W ce)) : PS X (.Return (some e) pos) (tS T C Wf W (.ret ce)) := PS.weak (ps_ret he) fun D σ H ⟨b, s, eH, A, h⟩ => by
  subst eH
  unfold evalS at h
  refine ⟨b, s, rfl, A, (PostS.seq A (Go.refl b) h).mono fun v H1 ⟨x, s1, b1, o1, e1, g1, A1, E1, h1⟩ => ?_⟩
  subst e1
  cases E1 with
  | own r => exact h1 v σ b1 o1 s1 rfl (g1.toS A) A1 r
  | @bor k d _ o4 r n =>
    by_cases hd : scal d = true
    · simp only [hd, if_true] at h1
      exact h1 v σ b1 [] s1 rfl (g1.toS A) A1 (.sc hd (r.scal hd).2)
    · simp only [hd] at h1; exact h1.elim
theorem ss_expr (he : PE X e (tE T C W ce)) (hs : swapsWith e none pos.line X.env = pure false) : PS X (.Expr e pos) (tS T C Wf W (.expr ce)) := PS.weak (ps_expr he hs) fun D σ H ⟨b, s, eH, A, h⟩ => by
  subst eH
  unfold evalS at h
  refine ⟨b, s, rfl, A, (PostS.seq A (Go.refl b) h).mono fun v H1 ⟨x, s1, b1, o1, e1, g1, A1, E1, h1⟩ => ?_⟩
  subst e1
  exact h1 σ (b1.out b.OX) (g1.drop.toS A) (At.drop g1 A1)
theorem ss_set {i : Nat} {x : PySem.Str} {pos' : Pos} (hN : X.N.Nodup) (hi : X.N[i]? = some x) (hx : Loc X.env.scope x) (hf : X.fn x = true) (he : PE X e (tE T C W ce)) (hs : swapsWith e (some (.Name x pos')) pos.line X.env = pure false) :
    PS X (.Assign [.Name x pos'] e pos) (tS T C Wf W (.asg (.name i) ce)) := PS.weak (ps_set hN hi hx he hs (.inl hf)) fun D σ H ⟨b, s, eH, A, h⟩ => by
  subst eH
  unfold evalS at h
  refine ⟨b, s, rfl, A, (PostS.seq A (Go.refl b) h).mono fun v H1 ⟨x, s1, b1, o1, e1, g1, A1, E1, h1⟩ => ?_⟩
  subst e1
  have go : ∀ {k : Nat} {d : BT.D}, RpK T b1.ρ b1.Φ b1.H k d v o1 → PostS T b (optFl (assign (.name i) k d s1)) D W → D.nx (σ.set i (some v)) b1.H := fun {k d} r h1 => by
    unfold assign at h1
    by_cases hl : i < s1.env.length
    · simp only [hl, if_true] at h1
      obtain ⟨b2, e2, g2, A2⟩ := Go.put A g1 A1 hl r
      rw [← e2]
      exact h1 _ b2 g2 A2
    · simp only [hl] at h1; exact h1.elim
  cases E1 with
  | own r => exact go r h1
  | @bor k d _ o4 r n =>
    by_cases hd : scal d = true
    · simp only [hd, if_true] at h1
      exact go (.sc hd (r.scal hd).2) h1
    · simp only [hd] at h1; exact h1.elim
theorem ss_if (hc : PT X e (tT T C W ce)) (ha : PSs X sts (tSs T C Wf W css)) {b' : List Stmt} (hb : PSs X b' (tSs T C Wf W c2)) : PS X (.If e sts b' pos) (tS T C Wf W (.ifs ce css c2)) := PS.weak (ps_if hc ha hb) fun D σ H ⟨b, s, eH, A, h⟩ => by
  subst eH
  unfold evalS at h
  refine ⟨b, s, rfl, A, (PostS.seq A (Go.refl b) h).mono fun w H1 ⟨t, s1, b1, o1, e1, g1, A1, E1, h1⟩ => ?_⟩
  subst e1
  obtain ⟨rfl, rfl⟩ := E1
  cases w with
  | true => exact ⟨b1, s1, rfl, A1, h1.shift (g1.toS A)⟩
  | false => exact ⟨b1, s1, rfl, A1, h1.shift (g1.toS A)⟩
end
end BT
end

section
/-! BtStmt2: several targets, changes in place. -/
namespace BT
open PySem PySem.Spec L2
open PyProof.Rows hiding St
set_option autoImplicit false
section
variable {T : Tb} {b b' b1 : Bs} {σ : St} {s s' s1 : S} {o : List Addr} {W : WX} {D : Ends}
/-- the parts of a value go into slots, one after another -/
theorem At.puts {OX : Addr → Prop} {k : Nat} : ∀ {is : List Nat} {ds : List BT.D} {vs : List V} {o : List Addr} {b : Bs} {s : S} {σ : St}, At T b s σ → is.length = ds.length → (∀ i ∈ is, i < s.env.length) → (∀ a, b.OX a ↔ OX a ∨ a ∈ o) → o.Nodup → (∀ a ∈ o, ¬ OX a) → (∀ a ∈ o, b.H0 a = none) →
    RpKL T b.ρ b.Φ b.H k ds vs o →
    ∃ own', At T { b with OX := OX, own := own' } { s with env := (is.zip ds).foldl (fun env p => env.set p.1 (some (k, p.2))) s.env } ((is.zip vs).foldl (fun σ p => σ.set p.1 (some p.2)) σ) ∧ Same b.Φ { b with OX := OX, own := own' : Bs }.Φ := by
  intro is
  induction is with
  | nil =>
    intro ds vs o b s σ A hl hi hox nd no new l
    cases l with
    | nil => exact ⟨b.own, A.weak fun a q => (hox a).mpr (.inl q), hid_less fun a q => q.imp (fun z => (hox a).mpr (.inl z)) id⟩
    | cons _ _ => simp at hl
  | cons i is ih =>
    intro ds vs o b s σ A hl hi hox nd no new l
    cases l with
    | nil => simp at hl
    | @cons _ d v ds vs o1 o2 r l =>
      have nd' := List.nodup_append.mp nd
      have hox1 : ∀ a, b.OX a ↔ (OX a ∨ a ∈ o2) ∨ a ∈ o1 := fun a => by
        rw [hox, List.mem_append]
        constructor
        · rintro (z | z | z)
          · exact .inl (.inl z)
          · exact .inr z
          · exact .inl (.inr z)
        · rintro ((z | z) | z)
          · exact .inl z
          · exact .inr (.inr z)
          · exact .inr (.inl z)
      obtain ⟨own1, A1, h1⟩ := At.put (OX := fun a => OX a ∨ a ∈ o2) A (hi i List.mem_cons_self) hox1 nd'.1 (fun a m z => z.elim (no a (List.mem_append_left _ m)) fun z => nd'.2.2 a m a z rfl) (fun a m => new a (List.mem_append_left _ m)) r
      obtain ⟨own2, A2, h2⟩ := ih A1 (by simpa using hl) (fun j hj => by
          show j < (s.env.set i _).length
          rw [List.length_set]
          exact hi j (List.mem_cons_of_mem _ hj)) (fun a => Iff.rfl) nd'.2.1 (fun a m => no a (List.mem_append_right _ m)) (fun a m => new a (List.mem_append_right _ m)) (l.mono h1 (List.prefix_refl _) fun _ _ _ q => q)
      exact ⟨own2, A2, h1.trans h2⟩
end
section
variable {T : Tb} {C : CF} {Wf : Nat} {W : WX} {X : Cx} {pos : Pos} {e f : Expr} {ce cf : CE}
/-- the targets' reading: slots in a row -/
def gSlots : List Nat → TGs
  | [] => gNil
  | i :: is => gCons (gName i) (gSlots is)
theorem gSlots_go : ∀ {is : List Nat} {vs : List V} {σ : St} {H : Hp} {Q : St → Hp → Prop}, is.length = vs.length → Q ((is.zip vs).foldl (fun σ p => σ.set p.1 (some p.2)) σ) H → gSlots is vs σ H Q
  | [], [], _, _, _, _, q => ⟨rfl, q⟩
  | i :: is, v :: vs, _, _, _, h, q => ⟨v, vs, rfl, gSlots_go (by simpa using h) q⟩
theorem ss_unp {is : List Nat} {tg : List Expr} {kt : Nat} {pt : Pos} (hK : X.K = T.K) (he : PE X e (tE T C W ce)) (hg : PG X (.Tuple tg kt pt) (gTup X.K is.length (gSlots is))) (hs : swapsWithSole [.Tuple tg kt pt] e pos.line X.env = pure false) (hw : swappedStores [.Tuple tg kt pt] e X.env = pure none) (h1 : (assignEach [.Tuple tg kt pt] X.env).map (·.2) = [PySem.assign (.Tuple tg kt pt) X.env]) :
    PS X (.Assign [.Tuple tg kt pt] e pos) (tS T C Wf W (.asg (.tup is) ce)) := PS.weak (ps_asg he hg hs hw h1) fun D σ H ⟨b, s, eH, A, h⟩ => by
  subst eH
  unfold evalS at h
  refine ⟨b, s, rfl, A, (PostS.seq A (Go.refl b) h).mono fun v H1 ⟨x, s1, b1, o1, e1, g1, A1, E1, h1⟩ => ?_⟩
  subst e1
  -- a tuple of parts at depth k - 1
  have go : ∀ (k : Nat) (ds : List BT.D), RpK T b1.ρ b1.Φ b1.H k (.tup ds) v o1 → PostS T b (optFl (assign (.tup is) k (.tup ds) s1)) D W → gTup X.K is.length (gSlots is) v σ b1.H D.nx := fun k ds r h1 => by
    unfold assign at h1
    by_cases hc : is.length = ds.length ∧ is.all (· < s1.env.length) = true
    · simp only [hc, if_true, and_self] at h1
      have hi : ∀ i ∈ is, i < s1.env.length := fun i m => by simpa using List.all_eq_true.mp hc.2 i m
      have fin : ∀ (a : Addr) (vs : List V), v = .ref a → SqT T.K b1.H a vs → RpKL T b1.ρ b1.Φ b1.H (k - 1) ds vs o1 → gTup X.K is.length (gSlots is) v σ b1.H D.nx := fun a vs hv hq hl => by
        have gs := g1.toS A
        obtain ⟨own', A', h'⟩ := At.puts A1 hc.1 hi g1.ox g1.nd g1.no (fun a m => by rw [g1.h0]; exact gs.new a m) hl
        refine ⟨a, vs, hv, by rw [hK]; exact hq, by rw [← hl.len, hc.1], gSlots_go (by rw [← hl.len, hc.1]) ?_⟩
        exact h1 _ { b1 with OX := b.OX, own := own' } ⟨g1.pre, g1.h0, g1.so, g1.phi.trans h', List.nodup_nil, fun _ m => by simp at m, fun _ m => by simp at m, fun a => by simp⟩ A'
      cases r with
      | sc s h => cases s
      | frz h =>
        obtain ⟨a, vs, hv, hq, hl⟩ := h.tup'
        exact fin a vs hv (same_t b1.le hq) (RpKL.ofL hl)
      | tup hq hl => exact fin _ _ rfl (same_t b1.le hq) hl
    · simp only [hc, if_false] at h1; exact h1.elim
  cases E1 with
  | @own k d _ _ r =>
    cases d with
    | tup ds => exact go k ds r h1
    | _ => exact h1.elim
  | @bor k d _ o4 r n =>
    by_cases hd : scal d = true
    · simp only [hd, if_true] at h1
      cases d with
      | tup ds => cases hd
      | _ => exact h1.elim
    · simp only [hd] at h1; exact h1.elim
theorem ss_par {i j : Nat} {x y : PySem.Str} {px py pt : Pos} {kt k2 : Nat} {pt2 : Pos} (hc : X.calm = true) (hN : X.N.Nodup) (hi : X.N[i]? = some x) (hj : X.N[j]? = some y) (hij : i ≠ j)
    (hx : X.env.scope.names.lookup x = some .local) (hy : X.env.scope.names.lookup y = some .local) (ha : PA X [e, f] (tEs T C W (.cons ce (.cons cf .nil))))
    (hw : swappedStores [.Tuple [.Name x px, .Name y py] kt pt] (.Tuple [e, f] k2 pt2) X.env = pure (some [x, y]))
    (hs : swapsWithSole [.Tuple [.Name x px, .Name y py] kt pt] (.Tuple [e, f] k2 pt2) pos.line X.env = pure false) :
    PS X (.Assign [.Tuple [.Name x px, .Name y py] kt pt] (.Tuple [e, f] k2 pt2) pos) (tS T C Wf W (.par i j ce cf)) := PS.weak (ps_par hc hN hi hj hij hx hy ha hw hs) fun D σ H ⟨b, s, eH, A, h⟩ => by
  subst eH
  unfold evalS at h
  refine ⟨b, s, rfl, A, (PostS.seq A (Go.refl b) h).mono fun vs H1 ⟨xs, s1, b1, o1, e1, g1, A1, E1, h1⟩ => ?_⟩
  subst e1
  cases E1 with
  | nil => exact (show False from h1).elim
  | @cons x1 v1 xs1 vs1 oa ob E1 E2 =>
    cases E2 with
    | nil => cases x1 <;> exact (show False from h1).elim
    | @cons x2 v2 xs2 vs2 oc od E2 E3 =>
      cases E3 with
      | cons _ _ => cases x1 <;> cases x2 <;> exact (show False from h1).elim
      | nil =>
        refine ⟨v1, v2, rfl, ?_⟩
        cases E1 with
        | bor _ _ => exact (show False from h1).elim
        | @own k d _ _ r1 =>
          cases E2 with
          | bor _ _ => exact (show False from h1).elim
          | @own l d2 _ _ r2 =>
            simp only at h1
            by_cases hl : i < s1.env.length ∧ j < s1.env.length
            · simp only [hl, if_true, and_self] at h1
              have gs := g1.toS A
              have nd := g1.nd
              rw [List.append_nil] at nd
              have nd' := List.nodup_append.mp nd
              have hox : ∀ a, b1.OX a ↔ (b.OX a ∨ a ∈ oc) ∨ a ∈ oa := fun a => by
                rw [g1.ox]
                simp only [List.mem_append, List.not_mem_nil, or_false]
                constructor
                · rintro (z | z | z)
                  · exact .inl (.inl z)
                  · exact .inr z
                  · exact .inl (.inr z)
                · rintro ((z | z) | z)
                  · exact .inl z
                  · exact .inr (.inr z)
                  · exact .inr (.inl z)
              have no : ∀ a, a ∈ oa ∨ a ∈ oc → ¬ b.OX a := fun a m => g1.no a (by simpa using m)
              have new : ∀ a, a ∈ oa ∨ a ∈ oc → b1.H0 a = none := fun a m => by rw [g1.h0]; exact gs.new a (by simpa using m)
              obtain ⟨own1, A2, h2⟩ := At.put (OX := fun a => b.OX a ∨ a ∈ oc) A1 hl.1 hox nd'.1 (fun a m z => z.elim (no a (.inl m)) fun z => nd'.2.2 a m a z rfl) (fun a m => new a (.inl m)) r1
              obtain ⟨own2, A3, h3⟩ := At.put (OX := b.OX) A2 (i := j) (by show j < (s1.env.set i _).length; rw [List.length_set]; exact hl.2) (fun a => Iff.rfl) nd'.2.1 (fun a m => no a (.inr m)) (fun a m => new a (.inr m)) (r2.mono h2 (List.prefix_refl _) fun _ _ _ q => q)
              exact h1 _ { b1 with OX := b.OX, own := own2 } ⟨g1.pre, g1.h0, g1.so, (g1.phi.trans h2).trans h3, List.nodup_nil, fun _ m => by simp at m, fun _ m => by simp at m, fun a => by simp⟩ A3
            · simp only [hl, if_false] at h1; exact h1.elim

/-! ### op= -/
def rAu (T : Tb) (op : BOp) : TIp := fun x y H Q => ∃ ρ dx dy z, Rp T ρ H dx x ∧ Rp T ρ H dy y ∧ augop op dx dy = some z ∧ ∀ v, (∀ Φ, Rp T ρ Φ z v) → Q v H
theorem ip_of (op : BOp) : PIp X (opOf op) (rAu T op) := by
  rintro pins s σ H x y v u Q I rx ry ⟨ρ, dx, dy, z, r1, r2, hz, k⟩
  unfold augop at hz
  split at hz
  · cases hz
    exact ip_add pins s σ H x y v u Q I rx ry ⟨_, _, r1.int', r2.int', k _ fun Φ => .int _⟩
  · cases hz
    exact ip_sub pins s σ H x y v u Q I rx ry ⟨_, _, r1.int', r2.int', k _ fun Φ => .int _⟩
  · rename_i a b
    split at hz
    · rename_i hl
      cases hz
      refine iop_add_str pins s σ H x y v u Q I rx ry ⟨_, _, r1.str', r2.str', ?_, ?_⟩
      · rw [svLen, svLen]; exact limLe hl
      · rw [svApp]; exact k _ fun Φ => .str _ (BT.strAll r1.strAll r2.strAll)
    · cases hz
  · cases hz
theorem augop_scal {op : BOp} {x y z : BT.D} (h : augop op x y = some z) : scal z = true := by
  unfold augop at h
  split at h <;> (try split at h) <;> first | contradiction | (cases h; rfl)
theorem ss_aug {i : Nat} {op : BOp} {x : PySem.Str} {pos' : Pos} (hN : X.N.Nodup) (hi : X.N[i]? = some x) (hx : Loc X.env.scope x) (hf : X.fn x = true) (he : PE X e (tE T C W ce)) :
    PS X (.AugAssign (.Name x pos') (opOf op) e pos) (tS T C Wf W (.aug i op ce)) := PS.weak (ps_aug hN hi hx he (ip_of (T := T) op) (.inl hf)) fun D σ H ⟨b, s, eH, A, h⟩ => by
  subst eH
  unfold evalS at h
  cases es : s.env[i]? with
  | none => rw [es] at h; exact h.elim
  | some q =>
    cases q with
    | none => rw [es] at h; exact h.elim
    | some kd =>
      obtain ⟨k, d⟩ := kd
      rw [es] at h
      simp only at h
      by_cases hd : scal d = true
      · simp only [hd, if_true] at h
        obtain ⟨v0, p, m, q, e1, e2, e3, e4, e5⟩ := A.slot es
        refine ⟨v0, e2, b, s, rfl, A, (PostS.seq A (Go.refl b) h).mono fun v H1 ⟨x, s1, b1, o1, eb, g1, A1, E1, h1⟩ => ?_⟩
        subst eb
        cases hz : augop op d x.d with
        | none => rw [hz] at h1; exact h1.elim
        | some z =>
          rw [hz] at h1
          simp only at h1
          by_cases hl : i < s1.env.length
          · simp only [hl, if_true] at h1
            have r0 : Rp T b1.ρ b1.H d v0 := ((e3.scal hd).2.scal (Φ2 := b1.H) hd).mono (Same.refl _) g1.pre
            refine ⟨b1.ρ, d, x.d, z, r0, E1.see, hz, fun w rw' => ?_⟩
            obtain ⟨b2, e2, g2, A2⟩ := Go.put (k := 0) A g1.drop (At.drop g1 A1) hl (.sc (augop_scal hz) (rw' (b1.out b.OX).Φ))
            rw [show b1.H = (b1.out b.OX).H from rfl, ← e2]
            exact h1 _ b2 g2 A2
          · simp only [hl] at h1; exact h1.elim
      · simp only [hd] at h; exact h.elim
end
end BT
end

section
/-! BtStmt3: a list changed in place; loops. -/
namespace BT
open PySem PySem.Spec L2
open PyProof.Rows hiding St
set_option autoImplicit false
section
variable {T : Tb} {b b' b1 : Bs} {σ : St} {s s' s1 : S} {o : List Addr} {W : WX} {D : Ends}
theorem At.wr (A0 : At T b s σ) (g : Go b b1 o) (A : At T b1 s1 σ) {i k : Nat} {ds : List BT.D} (es : s1.env[i]? = some (some (k + 1, .lst ds))) :
    ∃ l vs ol p q, b1.own = p ++ (l :: ol) ++ q ∧ σ[i]? = some (some (.ref l)) ∧ b1.H l = some (.lst vs) ∧ RpKL T b1.ρ b1.Φ b1.H k ds vs ol ∧ (∀ a ∈ ol, a ∉ o) ∧ ol.Nodup ∧
      ∀ ds' vs' ol', (∀ a ∈ ol', a ∈ ol ∨ a ∈ o) → ol'.Nodup →
        (Same b1.Φ (hid b1.H (Own b.OX ((p ++ (l :: ol') ++ q) ++ b1.sown))) → (∀ x, Own b.OX ((p ++ (l :: ol') ++ q) ++ b1.sown) x → b.OX x ∨ x ∈ b1.own ∨ x ∈ b1.sown ∨ x ∈ ol') → RpKL T b1.ρ (hid b1.H (Own b.OX ((p ++ (l :: ol') ++ q) ++ b1.sown))) b1.H k ds' vs' ol') →
        ∃ b2, b2.H = upd b1.H l (.lst vs') ∧ GoS b b2 [] ∧ At T b2 { s1 with env := s1.env.set i (some (k + 1, .lst ds')) } σ := by
  obtain ⟨v, p, m, q, e1, e2, e3, e4, e5⟩ := RpE.split A.env es
  cases e3 with
  | sc s h => cases s
  | @lst _ _ l vs ol hl hk =>
    have nd0 : ((p ++ (l :: ol) ++ q) ++ b1.sown).Nodup := by rw [← e1]; exact A.nd
    have inOwn : ∀ a, a ∈ p ∨ a = l ∨ a ∈ ol ∨ a ∈ q → a ∈ b1.own := fun a h => by
      rw [e1]; simp only [List.mem_append, List.mem_cons]
      rcases h with h | h | h | h <;> simp [h]
    have oOut : ∀ a ∈ o, a ∉ b1.own ∧ a ∉ b1.sown := fun a m => by
      have z := (g.ox a).mpr (.inr m)
      exact ⟨fun h => A.ox a (List.mem_append_left _ h) z, fun h => A.ox a (List.mem_append_right _ h) z⟩
    have nd1 := nd0
    simp only [List.nodup_append, List.nodup_cons, List.mem_append, List.mem_cons] at nd1
    obtain ⟨⟨⟨n1, ⟨n2a, n2b⟩, n3⟩, n4, n5⟩, n6, n7⟩ := nd1
    refine ⟨l, vs, ol, p, q, e1, e2, hl, hk, fun a m z => (oOut a z).1 (inOwn a (.inr (.inr (.inl m)))), n2b, fun ds' vs' ol' sub nd' cont => ?_⟩
    have hP : ∀ x, Own b.OX ((p ++ (l :: ol') ++ q) ++ b1.sown) x → b.OX x ∨ x ∈ b1.own ∨ x ∈ b1.sown ∨ x ∈ ol' := fun x z => by
      rcases z with z | z
      · exact .inl z
      · simp only [List.mem_append, List.mem_cons] at z
        rcases z with ((z | z | z) | z) | z
        · exact .inr (.inl (inOwn x (.inl z)))
        · exact .inr (.inl (inOwn x (.inr (.inl z))))
        · exact .inr (.inr (.inr z))
        · exact .inr (.inl (inOwn x (.inr (.inr (.inr z)))))
        · exact .inr (.inr (.inl z))
    have toP1 : ∀ x, Own b.OX ((p ++ (l :: ol') ++ q) ++ b1.sown) x → Own b1.OX (b1.own ++ b1.sown) x := fun x z => by
      rcases hP x z with z | z | z | z
      · exact .inl ((g.ox x).mpr (.inl z))
      · exact .inr (List.mem_append_left _ z)
      · exact .inr (List.mem_append_right _ z)
      · rcases sub x z with z | z
        · exact .inr (List.mem_append_left _ (inOwn x (.inr (.inr (.inl z)))))
        · exact .inl ((g.ox x).mpr (.inr z))
    have hΦ1 : Same b1.Φ (hid b1.H (Own b.OX ((p ++ (l :: ol') ++ q) ++ b1.sown))) := hid_less toP1
    have lowned : Own b.OX ((p ++ (l :: ol') ++ q) ++ b1.sown) l := .inr (by simp)
    have hΦ2 : Same (hid b1.H (Own b.OX ((p ++ (l :: ol') ++ q) ++ b1.sown))) (hid (upd b1.H l (.lst vs')) (Own b.OX ((p ++ (l :: ol') ++ q) ++ b1.sown))) := hid_mono fun a u e n => ⟨n, by
      have : a ≠ l := fun z => n (z ▸ lowned)
      rw [upd_ne this]; exact e⟩
    have kp : ∀ a, a ≠ l → ∀ u, b1.H a = some u → upd b1.H l (.lst vs') a = some u := fun a n u h => by rw [upd_ne n]; exact h
    have nel : ∀ a, a ∈ p ∨ a ∈ ol ∨ a ∈ q ∨ a ∈ b1.sown ∨ a ∈ o → a ≠ l := fun a h z => by
      subst z
      rcases h with h | h | h | h | h
      · exact n3 a h a (.inl rfl) rfl
      · exact n2a h
      · exact n5 a (.inr (.inl rfl)) a h rfl
      · exact n7 a (.inl (.inr (.inl rfl))) a h rfl
      · exact (oOut a h).1 (inOwn a (.inr (.inl rfl)))
    have l0 : b1.H0 l = none := A.new l (inOwn l (.inr (.inl rfl)))
    have gs := g.toS A0
    refine ⟨{ b1 with OX := b.OX, H := upd b1.H l (.lst vs'), own := p ++ (l :: ol') ++ q }, rfl, ⟨g.pre, g.h0, g.so, (g.phi.trans hΦ1).trans hΦ2, List.nodup_nil, fun _ m => by simp at m, fun _ m => by simp at m, fun a => by simp⟩, ?_⟩
    have A4 := e4 (ρ' := b1.ρ) (hΦ1.trans hΦ2) (List.prefix_refl _) (fun a m u h => kp a (nel a (by simp only [List.mem_append] at m; rcases m with m | m <;> simp [m])) u h) (k + 1) (.lst ds') (.ref l) (l :: ol')
      (.lst upd_same ((cont hΦ1 hP).mono hΦ2 (List.prefix_refl _) fun a m u h => kp a (nel a (by rcases sub a m with z | z <;> simp [z])) u h))
    rw [getElem?_set_same e2] at A4
    refine ⟨fun a u h n => kp a (fun z => by subst z; have h : b1.H0 a = some u := h; rw [l0] at h; cases h) u (A.same a u h n), fun a u h => ?_, fun a h => ?_, A4, A.sto.mono (hΦ1.trans hΦ2) (List.prefix_refl _) fun a m u h => kp a (nel a (by simp [m])) u h, ?_, fun a m => ?_, A.snew, fun a m z => ?_, fun a z => ?_⟩
    · by_cases z : a = l
      · exact ⟨_, by rw [z]; exact upd_same⟩
      · exact (A.there a u h).imp fun u' h' => kp a z u' h'
    · by_cases z : a = l
      · exact ⟨_, by rw [z]; exact upd_same, rfl⟩
      · exact (A.nt a h).imp fun u' h' => ⟨kp a z u' h'.1, h'.2⟩
    · simp only [List.nodup_append, List.nodup_cons, List.mem_append, List.mem_cons]
      have out : ∀ a ∈ ol', a ∉ p ∧ a ≠ l ∧ a ∉ q ∧ a ∉ b1.sown := fun a m => by
        rcases sub a m with z | z
        · exact ⟨fun h => n3 a h a (.inr z) rfl, nel a (by simp [z]), fun h => n5 a (.inr (.inr z)) a h rfl, fun h => n7 a (.inl (.inr (.inr z))) a h rfl⟩
        · exact ⟨fun h => (oOut a z).1 (inOwn a (.inl h)), nel a (by simp [z]), fun h => (oOut a z).1 (inOwn a (.inr (.inr (.inr h)))), fun h => (oOut a z).2 h⟩
      refine ⟨⟨⟨n1, ⟨fun h => (out l h).2.1 rfl, nd'⟩, fun a ha c hc e => ?_⟩, n4, fun a ha c hc e => ?_⟩, n6, fun a ha c hc e => ?_⟩
      · subst e
        rcases hc with hc | hc
        · exact n3 a ha a (.inl hc) rfl
        · exact (out a hc).1 ha
      · subst e
        rcases ha with ha | ha | ha
        · exact n5 a (.inl ha) a hc rfl
        · exact n5 a (.inr (.inl ha)) a hc rfl
        · exact (out a ha).2.2.1 hc
      · subst e
        rcases ha with (ha | ha | ha) | ha
        · exact n7 a (.inl (.inl ha)) a hc rfl
        · exact n7 a (.inl (.inr (.inl ha))) a hc rfl
        · exact (out a ha).2.2.2 hc
        · exact n7 a (.inr ha) a hc rfl
    · simp only [List.mem_append, List.mem_cons] at m
      rcases m with (m | m | m) | m
      · exact A.new a (inOwn a (.inl m))
      · exact A.new a (inOwn a (.inr (.inl m)))
      · rcases sub a m with z | z
        · exact A.new a (inOwn a (.inr (.inr (.inl z))))
        · show b1.H0 a = none
          rw [g.h0]; exact gs.new a z
      · exact A.new a (inOwn a (.inr (.inr (.inr m))))
    · have z1 := (g.ox a).mpr (.inl z)
      simp only [List.mem_append, List.mem_cons] at m
      rcases m with ((m | m | m) | m) | m
      · exact A.ox a (List.mem_append_left _ (inOwn a (.inl m))) z1
      · exact A.ox a (List.mem_append_left _ (inOwn a (.inr (.inl m)))) z1
      · rcases sub a m with w | w
        · exact A.ox a (List.mem_append_left _ (inOwn a (.inr (.inr (.inl w))))) z1
        · exact g.no a w z
      · exact A.ox a (List.mem_append_left _ (inOwn a (.inr (.inr (.inr m))))) z1
      · exact A.ox a (List.mem_append_right _ m) z1
    · obtain ⟨u, h, hT⟩ := A.oxH a ((g.ox a).mpr (.inl z))
      by_cases z : a = l
      · exact ⟨_, by rw [z]; exact upd_same, rfl⟩
      · exact ⟨u, kp a z u h, hT⟩
/-- an item that fits: what it brings -/
theorem EvR.fits {k : Nat} {x : EV} {v : V} {Φw : Hp} (E : EvR T b1 x v o) (h : x.fit k = true) (e : Same b1.Φ Φw) (vis : k = 0 → ∀ a ∈ o, ∀ u, b1.H a = some u → Φw a = some u) :
    ∃ o', (o' = [] ∨ o' = o) ∧ (k = 0 → o' = []) ∧ RpK T b1.ρ Φw b1.H k x.d v o' := by
  cases E with
  | @own j d _ _ r =>
    simp only [EV.fit, BT.fit, Bool.or_eq_true, beq_iff_eq] at h
    rcases h with (h | h) | h
    · exact ⟨[], .inl rfl, fun _ => rfl, .sc h ((r.scal h).2.mono e (List.prefix_refl _))⟩
    · subst h
      exact ⟨[], .inl rfl, fun _ => rfl, .frz (r.freeze e (List.prefix_refl _) (vis rfl))⟩
    · subst h
      refine ⟨o, .inr rfl, fun z => ?_, r.mono e (List.prefix_refl _) fun _ _ _ q => q⟩
      subst z
      exact r.zero.1
  | bor r n => exact ⟨[], .inl rfl, fun _ => rfl, .sc h ((r.scal h).2.mono e (List.prefix_refl _))⟩
end
section
variable {T : Tb} {C : CF} {Wf : Nat} {W : WX} {X : Cx} {pos p1 p2 : Pos} {e f g : Expr} {ce cf : CE}
theorem ss_app {i : Nat} (hK : X.K = T.K) (hv : PE X g (tVar i)) (he : PE X e (tE T C W ce)) (hs : starEach [e] X.env = (false, eval e X.env) :: starEach [] X.env) (hp : PE X (.Call (.Attribute g "append" p1) [e] [] p2) (tBM X.K "list" rAppend (tVar i) (tEs T C W (.cons ce .nil)))) (hw : swapsWith (.Call (.Attribute g "append" p1) [e] [] p2) none pos.line X.env = pure false) :
    PS X (.Expr (.Call (.Attribute g "append" p1) [e] [] p2) pos) (tS T C Wf W (.app i ce)) := PS.weak (ps_expr hp hw) fun D σ H ⟨b, s, eH, A, h⟩ => by
  subst eH
  unfold evalS at h
  cases es : s.env[i]? with
  | none => rw [es] at h; exact h.elim
  | some q =>
    cases q with
    | none => rw [es] at h; exact h.elim
    | some kd =>
      obtain ⟨k0, d0⟩ := kd
      rw [es] at h
      cases d0 with
      | lst ds0 =>
        simp only at h
        obtain ⟨v0, p, m, q, e1, e2, e3, e4, e5⟩ := A.slot es
        obtain ⟨l0, vs0, rfl, hq0, _⟩ := (e3.see b.le).lst'
        refine ⟨.ref l0, e2, .inl ⟨rfl, vs0, by rw [hK]; exact hq0⟩, b, s, rfl, A, ?_⟩
        have hseq : evalEs C (.cons ce .nil) s = (evalE C ce s).bind fun x s1 => .ok [x] s1 := by
          simp only [evalEs]
          rfl
        rw [hseq]
        cases ho : evalE C ce s with
        | err => rw [ho] at h; exact h
        | exc x s1 =>
          rw [ho] at h
          exact fun c d b' g A' r => h σ c d b' (g.toS A) A' r
        | ok x s1 =>
          rw [ho] at h
          simp only [Out.fl] at h
          intro vs b1 o1 g1 A1 E1
          cases E1 with
          | @cons _ w _ _ oa ob Ea Er =>
            cases Er
            rw [List.append_nil] at g1
            cases es1 : s1.env[i]? with
            | none => rw [es1] at h; exact h.elim
            | some q =>
              cases q with
              | none => rw [es1] at h; exact h.elim
              | some kd =>
                obtain ⟨k1, d1⟩ := kd
                rw [es1] at h
                cases k1 with
                | zero => exact h.elim
                | succ k =>
                  cases d1 with
                  | lst ds =>
                    simp only at h
                    by_cases hc : (EV.fit k x && decide (ds.length < LIM)) = true
                    · simp only [hc, if_true] at h
                      rw [Bool.and_eq_true, decide_eq_true_eq] at hc
                      obtain ⟨l, ws, ol, p', q', own1, sg, hl, hk, dj, ndl, fin⟩ := At.wr A g1 A1 es1
                      rw [e2] at sg
                      cases sg
                      refine ⟨l0, ws, w, rfl, rfl, hl, ?_, ?_⟩
                      · rw [← hk.len]; exact limLt (Nat.le_of_lt hc.2)
                      · by_cases hk0 : k = 0
                        · subst hk0
                          obtain ⟨rfl, hk'⟩ := hk.zero
                          obtain ⟨b2, eh, g2, A2⟩ := fin (ds ++ [x.d]) (ws ++ [w]) [] (fun a m => by simp at m) List.nodup_nil fun hΦ hP => by
                            obtain ⟨o', _, hz, r⟩ := Ea.fits hc.1 hΦ fun _ a m u hu => by
                              rw [hid_at]
                              · exact hu
                              · intro z
                                rcases hP a z with z | z | z | z
                                · exact g1.no a m z
                                · exact A1.ox a (List.mem_append_left _ z) ((g1.ox a).mpr (.inr m))
                                · exact A1.ox a (List.mem_append_right _ z) ((g1.ox a).mpr (.inr m))
                                · simp at z
                            have r' := (hz rfl ▸ r).zero.2
                            exact RpKL.ofL ((hk'.mono hΦ (List.prefix_refl _)).app (.cons r' .nil))
                          rw [← eh]
                          exact h σ b2 g2 A2
                        · have fitE : ∃ o', (o' = [] ∨ o' = oa) ∧ RpK T b1.ρ b1.Φ b1.H k x.d w o' := by
                            obtain ⟨o', h1, _, r⟩ := Ea.fits hc.1 (Same.refl _) fun z => absurd z hk0
                            exact ⟨o', h1, r⟩
                          obtain ⟨o', ho', r⟩ := fitE
                          have sub : ∀ a ∈ o', a ∈ oa := fun a m => by
                            rcases ho' with rfl | rfl
                            · simp at m
                            · exact m
                          have ndo : o'.Nodup := by
                            rcases ho' with rfl | rfl
                            · exact List.nodup_nil
                            · exact g1.nd
                          obtain ⟨b2, eh, g2, A2⟩ := fin (ds ++ [x.d]) (ws ++ [w]) (ol ++ o') (fun a m => (List.mem_append.mp m).imp id (sub a)) (List.nodup_append.mpr ⟨ndl, ndo, fun a m c mc e => dj a m (sub a (e ▸ mc))⟩) fun hΦ hP => by
                            have := (hk.mono hΦ (List.prefix_refl _) fun _ _ _ q => q).app (RpKL.cons (r.mono hΦ (List.prefix_refl _) fun _ _ _ q => q) .nil)
                            simpa using this
                          rw [← eh]
                          exact h σ b2 g2 A2
                    · simp only [hc] at h; exact h.elim
                  | _ => exact h.elim
      | _ => exact h.elim
theorem RpKL.dropLast {ρ : List Addr} {Φ H : Hp} : ∀ {k : Nat} {ds : List BT.D} {vs : List V} {o : List Addr}, RpKL T ρ Φ H k ds vs o → ∃ o1 o2, o = o1 ++ o2 ∧ RpKL T ρ Φ H k ds.dropLast vs.dropLast o1
  | _, _, _, _, .nil => ⟨[], [], rfl, .nil⟩
  | _, _, _, _, .cons (o := a) h .nil => ⟨[], a ++ [], rfl, .nil⟩
  | _, _, _, _, .cons (o := a) h (.cons h2 l) => by
    obtain ⟨o1, o2, e, r⟩ := RpKL.dropLast (.cons h2 l)
    refine ⟨a ++ o1, o2, by rw [e, List.append_assoc], ?_⟩
    exact .cons h r
theorem ss_pop {i : Nat} (hK : X.K = T.K) (hp : PE X (.Call (.Attribute g "pop" p1) [] [] p2) (tBM0 X.K "list" rPop (tVar i))) (hw : swapsWith (.Call (.Attribute g "pop" p1) [] [] p2) none pos.line X.env = pure false) :
    PS X (.Expr (.Call (.Attribute g "pop" p1) [] [] p2) pos) (tS T C Wf W (.pop i)) := PS.weak (ps_expr hp hw) fun D σ H ⟨b, s, eH, A, h⟩ => by
  subst eH
  unfold evalS at h
  cases es : s.env[i]? with
  | none => rw [es] at h; exact h.elim
  | some q =>
    cases q with
    | none => rw [es] at h; exact h.elim
    | some kd =>
      obtain ⟨k0, d0⟩ := kd
      rw [es] at h
      cases k0 with
      | zero => exact h.elim
      | succ k =>
        cases d0 with
        | lst ds =>
          simp only at h
          by_cases hc : ds.isEmpty = true
          · simp only [hc, if_true] at h; exact h.elim
          · simp only [hc, Bool.false_eq_true, if_false] at h
            obtain ⟨l, ws, ol, p', q', own1, sg, hl, hk, dj, ndl, fin⟩ := At.wr A (Go.refl b) A es
            have hlen := hk.len
            have hne : 0 < ws.length := by
              rw [← hlen]
              cases ds with
              | nil => exact absurd rfl hc
              | cons _ _ => simp
            obtain ⟨o1, o2, e1, hk'⟩ := RpKL.dropLast hk
            obtain ⟨b2, eh, g2, A2⟩ := fin ds.dropLast ws.dropLast o1 (fun a m => .inl (by rw [e1]; exact List.mem_append_left _ m)) (by rw [e1] at ndl; exact (List.nodup_append.mp ndl).1) fun hΦ hP => hk'.mono hΦ (List.prefix_refl _) fun _ _ _ q => q
            refine ⟨.ref l, sg, .inl ⟨rfl, ws, SqL.of hl⟩, l, ws, ws[ws.length - 1], rfl, rfl, hl, List.getElem?_eq_getElem (by omega), ?_⟩
            rw [← eh]
            exact h σ b2 g2 A2
        | _ => exact h.elim
theorem ss_setI {i : Nat} {ci : CE} (hK : X.K = T.K) (he : PE X e (tE T C W ce)) (hg : PG X g (gSub (tVar i) (tE T C W ci) rSetL)) (hs : swapsWithSole [g] e pos.line X.env = pure false) (hw : swappedStores [g] e X.env = pure none) (h1 : (assignEach [g] X.env).map (·.2) = [PySem.assign g X.env]) :
    PS X (.Assign [g] e pos) (tS T C Wf W (.setI i ci ce)) := PS.weak (ps_asg he hg hs hw h1) fun D σ H ⟨b, s, eH, A, h⟩ => by
  subst eH
  unfold evalS at h
  cases es : s.env[i]? with
  | none => rw [es] at h; exact h.elim
  | some q =>
    cases q with
    | none => rw [es] at h; exact h.elim
    | some kd =>
      obtain ⟨k0, d0⟩ := kd
      rw [es] at h
      cases d0 with
      | lst ds0 =>
        simp only at h
        obtain ⟨v0, _, _, _, _, sl, _⟩ := A.slot es
        refine ⟨b, s, rfl, A, ?_⟩
        cases ho : evalE C ce s with
        | err => rw [ho] at h; exact h
        | exc x s1 => rw [ho] at h; exact fun c d b' g A' r => h σ c d b' (g.toS A) A' r
        | ok x s1 =>
          rw [ho] at h
          simp only [Out.fl] at h
          intro w b1 o1 g1 A1 Ea
          refine ⟨v0, sl, b1, s1, rfl, A1, ?_⟩
          cases hi : evalE C ci s1 with
          | err => rw [hi] at h; exact h
          | exc x2 s2 =>
            rw [hi] at h
            intro c d b2 g2 A2 r
            obtain ⟨b', e, g', A', r'⟩ := g1.excOut g2 A2 r
            rw [← e]
            exact h σ c d b' (g'.toS A) A' r'
          | ok y s2 =>
            rw [hi] at h
            intro u b2 o2 g2 A2 Ey
            have gg := g1.trans g2
            have E := Ea.move g2 (g1.dis A1)
            have sy := Ey.see
            simp only at h
            cases es2 : s2.env[i]? with
            | none => rw [es2] at h; exact h.elim
            | some q =>
              cases q with
              | none => rw [es2] at h; exact h.elim
              | some kd =>
                obtain ⟨k1, d1⟩ := kd
                rw [es2] at h
                cases k1 with
                | zero => exact h.elim
                | succ k =>
                  cases d1 with
                  | lst ds =>
                    simp only at h
                    cases hy : y.d with
                    | int n =>
                      rw [hy] at h sy
                      simp only at h
                      by_cases hc : EV.fit k x = true
                      · simp only [hc, if_true] at h
                        cases hm : BT.ixN ds.length n with
                        | none => rw [hm] at h; exact h.elim
                        | some m =>
                          rw [hm] at h
                          simp only at h
                          obtain ⟨l, ws, ol, p', q', own1, sg, hl, hk, dj, ndl, fin⟩ := At.wr A gg A2 es2
                          rw [sl] at sg
                          cases sg
                          have hml : m < ds.length := by
                            unfold BT.ixN at hm
                            split at hm
                            · split at hm
                              · cases hm; omega
                              · cases hm
                            · split at hm
                              · cases hm; omega
                              · cases hm
                          refine ⟨l, ws, n, m, rfl, sy.int', hl, by rw [← hk.len, ← ixN_eq]; exact hm, ?_⟩
                          by_cases hk0 : k = 0
                          · subst hk0
                            obtain ⟨e0, hk'⟩ := hk.zero
                            subst e0
                            obtain ⟨b3, eh, g3, A3⟩ := fin (ds.set m x.d) (ws.set m w) [] (fun a m => absurd m List.not_mem_nil) List.nodup_nil fun hΦ hP => by
                              obtain ⟨o', _, hz, r⟩ := E.fits hc hΦ fun _ a m u hu => by
                                rw [hid_at]
                                · exact hu
                                · intro z
                                  have m' : a ∈ o1 ++ o2 := List.mem_append_left _ m
                                  rcases hP a z with z | z | z | z
                                  · exact gg.no a m' z
                                  · exact A2.ox a (List.mem_append_left _ z) ((gg.ox a).mpr (.inr m'))
                                  · exact A2.ox a (List.mem_append_right _ z) ((gg.ox a).mpr (.inr m'))
                                  · exact absurd z List.not_mem_nil
                              have r' := (hz rfl ▸ r).zero.2
                              exact RpKL.ofL ((hk'.mono hΦ (List.prefix_refl _)).set r' m)
                            rw [← eh]
                            exact h σ b3 g3 A3
                          · obtain ⟨o', ho', _, r⟩ := E.fits hc (Same.refl _) fun z => absurd z hk0
                            have sub : ∀ a ∈ o', a ∈ o1 := fun a m => by
                              rcases ho' with rfl | rfl
                              · exact absurd m List.not_mem_nil
                              · exact m
                            have ndo : o'.Nodup := by
                              rcases ho' with rfl | rfl
                              · exact List.nodup_nil
                              · exact g1.nd
                            obtain ⟨p, q, mm, e1, hk'⟩ := RpKL.set r m hml hk
                            subst e1
                            have dj' : ∀ a, a ∈ o' → a ∉ p ∧ a ∉ q := fun a z => by
                              have z' : a ∈ o1 ++ o2 := List.mem_append_left _ (sub a z)
                              exact ⟨fun y => dj a (List.mem_append_left _ (List.mem_append_left _ y)) z', fun y => dj a (List.mem_append_right _ y) z'⟩
                            obtain ⟨b3, eh, g3, A3⟩ := fin (ds.set m x.d) (ws.set m w) (p ++ o' ++ q) (fun a z => by
                              rcases List.mem_append.mp z with z | z
                              · rcases List.mem_append.mp z with z | z
                                · exact .inl (List.mem_append_left _ (List.mem_append_left _ z))
                                · exact .inr (List.mem_append_left _ (sub a z))
                              · exact .inl (List.mem_append_right _ z)) (by
                              simp only [List.nodup_append, List.mem_append] at ndl ⊢
                              obtain ⟨⟨n1, n2, n3⟩, n4, n5⟩ := ndl
                              refine ⟨⟨n1, ndo, fun a ha c hc e => (dj' c hc).1 (e ▸ ha)⟩, n4, fun a ha c hc e => ?_⟩
                              rcases ha with ha | ha
                              · exact n5 a (.inl ha) c hc e
                              · exact (dj' a ha).2 (e ▸ hc)) fun hΦ hP => hk'.mono hΦ (List.prefix_refl _) fun _ _ _ q => q
                            rw [← eh]
                            exact h σ b3 g3 A3
                      · simp only [hc] at h; exact h.elim
                    | _ => rw [hy] at h; exact h.elim
                  | _ => exact h.elim
      | _ => exact h.elim
end
end BT
end

section
/-! BtStmt4: x = xs.pop(); xs[-1].append(e); three names at once. -/
namespace BT
open PySem PySem.Spec L2
open PyProof.Rows hiding St
set_option autoImplicit false
section
variable {T : Tb} {b b' b1 : Bs} {σ : St} {s s' s1 : S} {o : List Addr} {W : WX} {D : Ends}
/-- one owned object is written anew, anywhere in what a slot holds -/
theorem At.wr2 (A0 : At T b s σ) (g : Go b b1 o) (A : At T b1 s1 σ) {i k : Nat} {d : BT.D} (es : s1.env[i]? = some (some (k, d))) :
    ∃ v p m q, b1.own = p ++ m ++ q ∧ σ[i]? = some (some v) ∧ RpK T b1.ρ b1.Φ b1.H k d v m ∧ (∀ a ∈ m, a ∉ o) ∧ m.Nodup ∧ (∀ a ∈ m, a ∉ p ∧ a ∉ q ∧ a ∉ b1.sown ∧ ¬ b.OX a) ∧
      ∀ l u' d' m', l ∈ m → l ∈ m' → isT u' = false → (∀ a ∈ m', a ∈ m ∨ a ∈ o) → m'.Nodup →
        (Same b1.Φ (hid (upd b1.H l u') (Own b.OX ((p ++ m' ++ q) ++ b1.sown))) → (∀ x, Own b.OX ((p ++ m' ++ q) ++ b1.sown) x → b.OX x ∨ x ∈ p ∨ x ∈ m' ∨ x ∈ q ∨ x ∈ b1.sown) → RpK T b1.ρ (hid (upd b1.H l u') (Own b.OX ((p ++ m' ++ q) ++ b1.sown))) (upd b1.H l u') k d' v m') →
        ∃ b2, b2.H = upd b1.H l u' ∧ b2.ρ = b1.ρ ∧ b2.Φ = hid (upd b1.H l u') (Own b.OX ((p ++ m' ++ q) ++ b1.sown)) ∧ GoS b b2 [] ∧ At T b2 { s1 with env := s1.env.set i (some (k, d')) } σ := by
  obtain ⟨v, p, m, q, e1, e2, e3, e4, e5⟩ := RpE.split A.env es
  have nd0 : ((p ++ m ++ q) ++ b1.sown).Nodup := by rw [← e1]; exact A.nd
  have inOwn : ∀ a, a ∈ p ∨ a ∈ m ∨ a ∈ q → a ∈ b1.own := fun a h => by
    rw [e1]; simp only [List.mem_append]
    rcases h with h | h | h <;> simp [h]
  have oOut : ∀ a ∈ o, a ∉ b1.own ∧ a ∉ b1.sown := fun a m => by
    have z := (g.ox a).mpr (.inr m)
    exact ⟨fun h => A.ox a (List.mem_append_left _ h) z, fun h => A.ox a (List.mem_append_right _ h) z⟩
  have nd1 := nd0
  simp only [List.nodup_append, List.mem_append] at nd1
  obtain ⟨⟨⟨n1, n2, n3⟩, n4, n5⟩, n6, n7⟩ := nd1
  have out0 : ∀ a ∈ m, a ∉ p ∧ a ∉ q ∧ a ∉ b1.sown := fun a z => ⟨fun h => n3 a h a z rfl, fun h => n5 a (.inr z) a h rfl, fun h => n7 a (.inl (.inr z)) a h rfl⟩
  refine ⟨v, p, m, q, e1, e2, e3, fun a h z => (oOut a z).1 (inOwn a (.inr (.inl h))), n2, fun a h => ⟨(out0 a h).1, (out0 a h).2.1, (out0 a h).2.2, fun z => A.ox a (List.mem_append_left _ (inOwn a (.inr (.inl h)))) ((g.ox a).mpr (.inl z))⟩, fun l u' d' m' hlm hlm' hT sub nd' cont => ?_⟩
  have hP : ∀ x, Own b.OX ((p ++ m' ++ q) ++ b1.sown) x → b.OX x ∨ x ∈ p ∨ x ∈ m' ∨ x ∈ q ∨ x ∈ b1.sown := fun x z => by
    rcases z with z | z
    · exact .inl z
    · simp only [List.mem_append] at z
      rcases z with ((z | z) | z) | z <;> simp [z]
  have toP1 : ∀ x, Own b.OX ((p ++ m' ++ q) ++ b1.sown) x → Own b1.OX (b1.own ++ b1.sown) x := fun x z => by
    rcases hP x z with z | z | z | z | z
    · exact .inl ((g.ox x).mpr (.inl z))
    · exact .inr (List.mem_append_left _ (inOwn x (.inl z)))
    · rcases sub x z with z | z
      · exact .inr (List.mem_append_left _ (inOwn x (.inr (.inl z))))
      · exact .inl ((g.ox x).mpr (.inr z))
    · exact .inr (List.mem_append_left _ (inOwn x (.inr (.inr z))))
    · exact .inr (List.mem_append_right _ z)
  have hΦ1 : Same b1.Φ (hid b1.H (Own b.OX ((p ++ m' ++ q) ++ b1.sown))) := hid_less toP1
  have lowned : Own b.OX ((p ++ m' ++ q) ++ b1.sown) l := .inr (by simp [hlm'])
  have hΦ2 : Same (hid b1.H (Own b.OX ((p ++ m' ++ q) ++ b1.sown))) (hid (upd b1.H l u') (Own b.OX ((p ++ m' ++ q) ++ b1.sown))) := hid_mono fun a u e n => ⟨n, by
    have : a ≠ l := fun z => n (z ▸ lowned)
    rw [upd_ne this]; exact e⟩
  have kp : ∀ a, a ≠ l → ∀ u, b1.H a = some u → upd b1.H l u' a = some u := fun a n u h => by rw [upd_ne n]; exact h
  have nel : ∀ a, a ∈ p ∨ a ∈ q ∨ a ∈ b1.sown ∨ a ∈ o → a ≠ l := fun a h z => by
    subst z
    rcases h with h | h | h | h
    · exact (out0 a hlm).1 h
    · exact (out0 a hlm).2.1 h
    · exact (out0 a hlm).2.2 h
    · exact (oOut a h).1 (inOwn a (.inr (.inl hlm)))
  have l0 : b1.H0 l = none := A.new l (inOwn l (.inr (.inl hlm)))
  have gs := g.toS A0
  refine ⟨{ b1 with OX := b.OX, H := upd b1.H l u', own := p ++ m' ++ q }, rfl, rfl, rfl, ⟨g.pre, g.h0, g.so, (g.phi.trans hΦ1).trans hΦ2, List.nodup_nil, fun _ m => by simp at m, fun _ m => by simp at m, fun a => by simp⟩, ?_⟩
  have A4 := e4 (ρ' := b1.ρ) (H' := upd b1.H l u') (hΦ1.trans hΦ2) (List.prefix_refl _) (fun a m u h => kp a (nel a (by simp only [List.mem_append] at m; rcases m with m | m <;> simp [m])) u h) k d' v m' (cont (hΦ1.trans hΦ2) hP)
  rw [getElem?_set_same e2] at A4
  refine ⟨fun a u h n => kp a (fun z => by subst z; have h : b1.H0 a = some u := h; rw [l0] at h; cases h) u (A.same a u h n), fun a u h => ?_, fun a h => ?_, A4, A.sto.mono (hΦ1.trans hΦ2) (List.prefix_refl _) fun a m u h => kp a (nel a (by simp [m])) u h, ?_, fun a m => ?_, A.snew, fun a m z => ?_, fun a z => ?_⟩
  · by_cases z : a = l
    · exact ⟨_, by rw [z]; exact upd_same⟩
    · exact (A.there a u h).imp fun u' h' => kp a z u' h'
  · by_cases z : a = l
    · exact ⟨_, by rw [z]; exact upd_same, hT⟩
    · exact (A.nt a h).imp fun u' h' => ⟨kp a z u' h'.1, h'.2⟩
  · simp only [List.nodup_append, List.mem_append]
    have out : ∀ a ∈ m', a ∉ p ∧ a ∉ q ∧ a ∉ b1.sown := fun a h => by
      rcases sub a h with z | z
      · exact out0 a z
      · exact ⟨fun h => (oOut a z).1 (inOwn a (.inl h)), fun h => (oOut a z).1 (inOwn a (.inr (.inr h))), fun h => (oOut a z).2 h⟩
    refine ⟨⟨⟨n1, nd', fun a ha c hc e => (out c hc).1 (e ▸ ha)⟩, n4, fun a ha c hc e => ?_⟩, n6, fun a ha c hc e => ?_⟩
    · subst e
      rcases ha with ha | ha
      · exact n5 a (.inl ha) a hc rfl
      · exact (out a ha).2.1 hc
    · subst e
      rcases ha with (ha | ha) | ha
      · exact n7 a (.inl (.inl ha)) a hc rfl
      · exact (out a ha).2.2 hc
      · exact n7 a (.inr ha) a hc rfl
  · simp only [List.mem_append] at m
    rcases m with (m | m) | m
    · exact A.new a (inOwn a (.inl m))
    · rcases sub a m with z | z
      · exact A.new a (inOwn a (.inr (.inl z)))
      · show b1.H0 a = none
        rw [g.h0]; exact gs.new a z
    · exact A.new a (inOwn a (.inr (.inr m)))
  · have z1 := (g.ox a).mpr (.inl z)
    simp only [List.mem_append] at m
    rcases m with ((m | m) | m) | m
    · exact A.ox a (List.mem_append_left _ (inOwn a (.inl m))) z1
    · rcases sub a m with w | w
      · exact A.ox a (List.mem_append_left _ (inOwn a (.inr (.inl w)))) z1
      · exact g.no a w z
    · exact A.ox a (List.mem_append_left _ (inOwn a (.inr (.inr m)))) z1
    · exact A.ox a (List.mem_append_right _ m) z1
  · obtain ⟨u, h, hT2⟩ := A.oxH a ((g.ox a).mpr (.inl z))
    by_cases z : a = l
    · exact ⟨_, by rw [z]; exact upd_same, hT⟩
    · exact ⟨u, kp a z u h, hT2⟩
theorem RpKL.last {ρ : List Addr} {Φ H : Hp} : ∀ {k : Nat} {ds : List BT.D} {vs : List V} {o : List Addr} {d : BT.D}, RpKL T ρ Φ H k ds vs o → ds.getLast? = some d →
    ∃ o1 o2 v, o = o1 ++ o2 ∧ RpKL T ρ Φ H k ds.dropLast vs.dropLast o1 ∧ RpK T ρ Φ H k d v o2 ∧ vs[vs.length - 1]? = some v ∧ vs = vs.dropLast ++ [v]
  | _, _, _, _, _, .nil, e => by simp at e
  | _, _, _, _, d, .cons (o := a) (v := v) h .nil, e => by
    simp at e; subst e
    exact ⟨[], a, v, by simp, .nil, h, by simp, by simp⟩
  | _, _, _, _, d, .cons (o := a) (v := v0) (d := d0) h (.cons (d := d1) (v := v1) (ds := ds) (vs := vs) h2 l), e => by
    obtain ⟨o1, o2, v, e1, r1, r2, e2, e3⟩ := RpKL.last (.cons h2 l) (d := d) (by simpa using e)
    refine ⟨a ++ o1, o2, v, by rw [e1, List.append_assoc], .cons h r1, r2, ?_, ?_⟩
    · simpa using e2
    · show v0 :: v1 :: vs = v0 :: ((v1 :: vs).dropLast ++ [v])
      rw [← e3]
end
section
variable {T : Tb} {C : CF} {Wf : Nat} {W : WX} {X : Cx} {pos p1 p2 : Pos} {e f g ix : Expr} {ce cf : CE}
theorem ss_popA {i j : Nat} {x : PySem.Str} {pos' : Pos} (hN : X.N.Nodup) (hi : X.N[i]? = some x) (hx : Loc X.env.scope x) (hf : X.fn x = true) (hK : X.K = T.K) (hp : PE X (.Call (.Attribute g "pop" p1) [] [] p2) (tBM0 X.K "list" rPop (tVar j)))
    (hs : swapsWith (.Call (.Attribute g "pop" p1) [] [] p2) (some (.Name x pos')) pos.line X.env = pure false) :
    PS X (.Assign [.Name x pos'] (.Call (.Attribute g "pop" p1) [] [] p2) pos) (tS T C Wf W (.popA i j)) := PS.weak (ps_set hN hi hx hp hs (.inl hf)) fun D σ H ⟨b, s, eH, A, h⟩ => by
  subst eH
  unfold evalS at h
  cases es : s.env[j]? with
  | none => rw [es] at h; exact h.elim
  | some q =>
    cases q with
    | none => rw [es] at h; exact h.elim
    | some kd =>
      obtain ⟨k0, d0⟩ := kd
      rw [es] at h
      cases k0 with
      | zero => exact h.elim
      | succ k =>
        cases d0 with
        | lst ds =>
          simp only at h
          cases hd : ds.getLast? with
          | none => rw [hd] at h; exact h.elim
          | some d =>
            rw [hd] at h
            simp only at h
            by_cases hc : i < s.env.length ∧ i ≠ j
            · rw [if_pos hc] at h
              obtain ⟨v, p, m, q, e1, sg, r, _, nd, dis, fin⟩ := At.wr2 A (Go.refl b) A es
              cases r with
              | sc s _ => cases s
              | @lst _ _ l ws ol hl hk =>
                obtain ⟨o1, o2, w, e2, r1, r2, e3, e4⟩ := RpKL.last hk hd
                subst e2
                have ndl := List.nodup_cons.mp nd
                have ndo := List.nodup_append.mp ndl.2
                have nel : ∀ a, a ∈ o1 ∨ a ∈ o2 → a ≠ l := fun a h z => ndl.1 (z ▸ List.mem_append.mpr h)
                obtain ⟨b2, eh, eρ, eΦ, g2, A2⟩ := fin l (.lst ws.dropLast) (.lst ds.dropLast) (l :: o1) List.mem_cons_self List.mem_cons_self rfl (fun a m => .inl (by
                    rcases List.mem_cons.mp m with m | m
                    · exact List.mem_cons.mpr (.inl m)
                    · exact List.mem_cons_of_mem _ (List.mem_append_left _ m)))
                  (List.nodup_cons.mpr ⟨fun z => nel l (.inl z) rfl, ndo.1⟩) fun hΦ hP => .lst upd_same (r1.mono hΦ (List.prefix_refl _) fun a m u h => by rw [upd_ne (nel a (.inl m))]; exact h)
                have rz : Rp T b2.ρ b2.Φ d w := r2.freeze g2.phi (by rw [eρ]; exact List.prefix_refl _) fun a m u h => by
                  obtain ⟨d1, d2, d3, d4⟩ := dis a (List.mem_cons_of_mem _ (List.mem_append_right _ m))
                  rw [eΦ, hid_at]
                  · rw [upd_ne (nel a (.inr m))]; exact h
                  · rintro (z | z)
                    · exact d4 z
                    · simp only [List.mem_append, List.mem_cons] at z
                      rcases z with ((z | z | z) | z) | z
                      · exact d1 z
                      · exact nel a (.inr m) z
                      · exact ndo.2.2 a z a m rfl
                      · exact d2 z
                      · exact d3 z
                obtain ⟨b3, e5, g3, A3⟩ := Go.put A2 (Go.refl b2) A2 (i := i) (by simpa using hc.1) (k := 0) (.frz rz)
                refine ⟨.ref l, sg, .inl ⟨rfl, ws, SqL.of hl⟩, l, ws, w, rfl, rfl, hl, e3, ?_⟩
                rw [← eh, ← e5]
                exact h _ b3 (g2.trans g3) A3
            · rw [if_neg hc] at h; exact h.elim
        | _ => exact h.elim
theorem ss_appL {i : Nat} {ps : Pos} (hK : X.K = T.K) (he : PE X e (tE T C W ce))
    (hp : PE X (.Call (.Attribute (.Subscript g ix ps) "append" p1) [e] [] p2) (tBM X.K "list" rAppend (tOp (rIx X.K) (tVar i) (tE T C W (.neg (.int 1)))) (tEs T C W (.cons ce .nil)))) (hw : swapsWith (.Call (.Attribute (.Subscript g ix ps) "append" p1) [e] [] p2) none pos.line X.env = pure false) :
    PS X (.Expr (.Call (.Attribute (.Subscript g ix ps) "append" p1) [e] [] p2) pos) (tS T C Wf W (.appL i ce)) := PS.weak (ps_expr hp hw) fun D σ H ⟨b0, s, eH, A0, h⟩ => by
  subst eH
  unfold evalS at h
  rcases es : s.env[i]? with _ | _ | ⟨k0, d0⟩
  · rw [es] at h; exact h.elim
  · rw [es] at h; exact h.elim
  rw [es] at h
  match k0, d0, es, h with
  | 2, .lst ds0, es, h =>
    simp only at h
    cases hd0 : ds0.getLast? with
    | none => rw [hd0] at h; exact h.elim
    | some y0 =>
      rw [hd0] at h
      cases y0 with
      | lst ys0 =>
        simp only at h
        obtain ⟨v0, _, _, _, _, sg0, r0, _, _⟩ := A0.slot es
        have hneg : evalE C (.neg (.int 1)) s = .ok (.own 0 (.int (-1))) s := by
          simp only [evalE, Out.bind, EV.d]
        cases r0 with
        | sc s _ => cases s
        | @lst _ _ l vs0 ol hl00 hk00 =>
        refine ⟨.ref l, sg0, b0, s, rfl, A0, ?_⟩
        rw [hneg]
        intro w b o g A E
        cases E with
        | own rw0 =>
        obtain ⟨rfl, rw1⟩ := rw0.zero
        have := rw1.int'
        subst this
        have h := PostS.shift h (g.toS A0)
        obtain ⟨_, _, _, _, _, sg, r0, _, _⟩ := A.slot es
        rw [sg0] at sg
        cases sg
        cases r0 with
        | sc s _ => cases s
        | @lst _ _ _ vs1 ol1 hl0 hk0 =>
        obtain ⟨o1, o2, w0, eo, q1, q2, q3, q4⟩ := RpKL.last hk0 hd0
        cases q2 with
        | sc s _ => cases s
        | @lst _ _ l' wy0 oy0 hl' hy0 =>
        have hpos : 0 < vs1.length := by rw [q4]; simp
        have hix : atI vs1 (-1) = some (.ref l') := by
          unfold atI L2.ixN
          rw [if_neg (by omega), if_pos (by omega)]
          have : ((-1 : Int) + (vs1.length : Int)).toNat = vs1.length - 1 := by omega
          simp only [Option.bind_some, this]
          exact q3
        refine .inl ⟨l, vs1, -1, .ref l', rfl, rfl, SqL.of hl0, hix, .inl ⟨rfl, wy0, SqL.of hl'⟩, b, s, rfl, A, ?_⟩
        have hseq : evalEs C (.cons ce .nil) s = (evalE C ce s).bind fun x s1 => .ok [x] s1 := by
          simp only [evalEs]
          rfl
        rw [hseq]
        cases ho : evalE C ce s with
        | err => rw [ho] at h; exact h
        | exc x s1 =>
          rw [ho] at h
          exact fun c d b' g A' r => h σ c d b' (g.toS A) A' r
        | ok x s1 =>
          rw [ho] at h
          simp only [Out.fl] at h
          intro vs b1 o1' g1 A1 E1
          cases E1 with
          | @cons _ w _ _ oa ob Ea Er =>
          cases Er
          rw [List.append_nil] at g1
          rcases es1 : s1.env[i]? with _ | _ | ⟨k1, d1⟩
          · rw [es1] at h; exact h.elim
          · rw [es1] at h; exact h.elim
          rw [es1] at h
          match k1, d1, es1, h with
          | 2, .lst ds, es1, h =>
            simp only at h
            cases hd1 : ds.getLast? with
            | none => rw [hd1] at h; exact h.elim
            | some y1 =>
              rw [hd1] at h
              cases y1 with
              | lst ys =>
                simp only at h
                by_cases hc : (EV.fit 0 x && decide (ys.length < LIM)) = true
                · rw [if_pos hc] at h
                  rw [Bool.and_eq_true, decide_eq_true_eq] at hc
                  obtain ⟨_, p, m, q, own1, sg, r, dj, nd, dis, fin⟩ := At.wr2 A g1 A1 es1
                  rw [sg0] at sg
                  cases sg
                  cases r with
                  | sc s _ => cases s
                  | @lst _ _ _ ws ol hl hk =>
                  have hsame : b1.H l = some (.lst vs1) := g1.adv.same l _ hl0 fun z => by
                    obtain ⟨v2, p2, m2, q2, ee, sg2, r2, _, _⟩ := A.slot es
                    rw [sg0] at sg2
                    cases sg2
                    cases r2 with
                    | sc s _ => cases s
                    | lst _ _ =>
                      have nda := List.nodup_append.mp A.nd
                      exact nda.2.2 l (by rw [ee]; simp) l z rfl
                  rw [hl] at hsame
                  cases hsame
                  obtain ⟨u1, u2, w1, eo1, t1, t2, t3, t4⟩ := RpKL.last hk hd1
                  rw [q3] at t3
                  cases t3
                  cases t2 with
                  | sc s _ => cases s
                  | @lst _ _ _ wy oy hly hky =>
                  obtain ⟨rfl, hky'⟩ := hky.zero
                  subst eo1
                  have ndl := List.nodup_cons.mp nd
                  have ndo := List.nodup_append.mp ndl.2
                  refine ⟨l', wy, w, rfl, rfl, hly, ?_, ?_⟩
                  · rw [← hky'.len]; exact limLt (Nat.le_of_lt hc.2)
                  · have ne1 : ∀ a, a ∈ u1 → a ≠ l' := fun a h z => ndo.2.2 a h l' (by simp) z
                    have ne2 : l ≠ l' := fun z => ndl.1 (by rw [z]; simp)
                    obtain ⟨b2, eh, eρ, eΦ, g2, A2⟩ := fin l' (.lst (wy ++ [w])) (.lst (ds.dropLast ++ [.lst (ys ++ [x.d])])) (l :: (u1 ++ [l'])) (by simp) (by simp) rfl (fun a m => .inl m) nd fun hΦ hP => by
                      obtain ⟨o', _, hz, rx⟩ := Ea.fits hc.1 hΦ fun _ a m u hu => by
                        have hne : a ≠ l' := fun z => dj l' (by simp) (z ▸ m)
                        rw [hid_at]
                        · rw [upd_ne hne]; exact hu
                        · intro z
                          rcases hP a z with z | z | z | z | z
                          · exact g1.no a m z
                          · exact A1.ox a (List.mem_append_left _ (by rw [own1]; simp [z])) ((g1.ox a).mpr (.inr m))
                          · exact dj a z m
                          · exact A1.ox a (List.mem_append_left _ (by rw [own1]; simp [z])) ((g1.ox a).mpr (.inr m))
                          · exact A1.ox a (List.mem_append_right _ z) ((g1.ox a).mpr (.inr m))
                      have r' := (hz rfl ▸ rx).zero.2
                      have inner : RpK T b1.ρ (hid (upd b1.H l' (.lst (wy ++ [w]))) (Own b.OX ((p ++ (l :: (u1 ++ [l'])) ++ q) ++ b1.sown))) (upd b1.H l' (.lst (wy ++ [w]))) 1 (.lst (ys ++ [x.d])) (.ref l') [l'] :=
                        .lst upd_same (RpKL.ofL ((hky'.mono hΦ (List.prefix_refl _)).app (.cons r' .nil)))
                      have all := RpKL.app (t1.mono hΦ (List.prefix_refl _) (H' := upd b1.H l' (.lst (wy ++ [w]))) fun a m u h => by rw [upd_ne (ne1 a m)]; exact h) (RpKL.cons inner .nil)
                      rw [← t4] at all
                      exact .lst (by rw [upd_ne ne2]; exact hl) (by simpa using all)
                    rw [← eh]
                    exact h σ b2 g2 A2
                · rw [if_neg hc] at h; exact h.elim
              | _ => exact h.elim
          | 0, _, _, h => exact h.elim
          | 1, _, _, h => exact h.elim
          | (n + 3), _, _, h => exact h.elim
      | _ => exact h.elim
  | 0, _, _, h => exact h.elim
  | 1, _, _, h => exact h.elim
  | (n + 3), _, _, h => exact h.elim
theorem EvR.own0 {b : Bs} {d : BT.D} {v : V} {o : List Addr} (h : EvR T b (.own 0 d) v o) : o = [] ∧ Rp T b.ρ b.Φ d v := by
  cases h with
  | own r => exact r.zero
theorem ss_par3 {i j l : Nat} {x y z : PySem.Str} {e1 e2 e3 : Expr} {c1 c2 c3 : CE} {px py pz pt : Pos} {kt k2 : Nat} {pt2 : Pos} (hc : X.calm = true) (hN : X.N.Nodup) (hi : X.N[i]? = some x) (hj : X.N[j]? = some y) (hl : X.N[l]? = some z) (hij : i ≠ j) (hil : i ≠ l) (hjl : j ≠ l)
    (hx : X.env.scope.names.lookup x = some .local) (hy : X.env.scope.names.lookup y = some .local) (hz : X.env.scope.names.lookup z = some .local) (ha : PA X [e1, e2, e3] (tEs T C W (.cons c1 (.cons c2 (.cons c3 .nil)))))
    (hw : swappedStores [.Tuple [.Name x px, .Name y py, .Name z pz] kt pt] (.Tuple [e1, e2, e3] k2 pt2) X.env = pure (some [x, y, z]))
    (hs : swapsWithSole [.Tuple [.Name x px, .Name y py, .Name z pz] kt pt] (.Tuple [e1, e2, e3] k2 pt2) pos.line X.env = pure false) :
    PS X (.Assign [.Tuple [.Name x px, .Name y py, .Name z pz] kt pt] (.Tuple [e1, e2, e3] k2 pt2) pos) (tS T C Wf W (.par3 i j l c1 c2 c3)) := PS.weak (ps_par3 hc hN hi hj hl hij hil hjl hx hy hz ha hw hs) fun D σ H ⟨b, s, eH, A, h⟩ => by
  subst eH
  unfold evalS at h
  refine ⟨b, s, rfl, A, (PostS.seq A (Go.refl b) h).mono fun vs H1 ⟨xs, s1, b1, o1, e1, g1, A1, E1, h1⟩ => ?_⟩
  subst e1
  split at h1
  · rename_i d0 d1 d2
    cases E1 with
    | cons E0 E1 =>
    cases E1 with
    | cons E1 E2 =>
    cases E2 with
    | cons E2 E3 =>
    cases E3
    obtain ⟨rfl, r0⟩ := E0.own0
    obtain ⟨rfl, r1⟩ := E1.own0
    obtain ⟨rfl, r2⟩ := E2.own0
    refine ⟨_, _, _, rfl, ?_⟩
    by_cases hl : i < s1.env.length ∧ j < s1.env.length ∧ l < s1.env.length
    · rw [if_pos hl] at h1
      obtain ⟨own', A', h'⟩ := At.puts (OX := b.OX) (o := []) (k := 0) (is := [i, j, l]) (ds := [d0, d1, d2]) A1 rfl (fun n m => by
          simp only [List.mem_cons, List.not_mem_nil, or_false] at m
          rcases m with rfl | rfl | rfl
          · exact hl.1
          · exact hl.2.1
          · exact hl.2.2) (fun a => by rw [g1.ox]; simp) List.nodup_nil (fun _ m => by simp at m) (fun _ m => by simp at m) (RpKL.ofL (H := b1.H) (.cons r0 (.cons r1 (.cons r2 .nil))))
      exact h1 _ { b1 with OX := b.OX, own := own' } ⟨g1.pre, g1.h0, g1.so, g1.phi.trans h', List.nodup_nil, fun _ m => by simp at m, fun _ m => by simp at m, fun a => by simp⟩ A'
    · rw [if_neg hl] at h1; exact h1.elim
  · exact h1.elim
end
end BT
end

section
/-! BtLoop: loops. -/
namespace BT
open PySem PySem.Spec L2
open PyProof.Rows hiding St
set_option autoImplicit false
/-- the turn's end -/
def loopK (fl : Fl) (r : S → Fl) : Fl := match fl with
  | .next s' => r s'
  | .cont s' => r s'
  | .brk s' => .next s'
  | x => x
theorem forL_cons (step : BT.D → S → Fl) (d : BT.D) (ds : List BT.D) (s : S) : forL step (d :: ds) s = loopK (step d s) (forL step ds) := by
  show (match step d s with | .next s' => forL step ds s' | .cont s' => forL step ds s' | .brk s' => .next s' | r => r) = _
  cases step d s <;> rfl
theorem whileL_succ (test : S → Out Bool) (body : S → Fl) (n : Nat) (s : S) : whileL test body (n + 1) s = (test s).fl fun t s1 => if t then loopK (body s1) (whileL test body n) else .next s1 := by
  show (match test s with | .ok true s1 => (match body s1 with | .next s' => whileL test body n s' | .cont s' => whileL test body n s' | .brk s' => .next s' | r => r) | .ok false s1 => .next s1 | .exc x s1 => .exc x s1 | .err => .err) = _
  cases test s with
  | ok t s1 =>
    cases t with
    | true =>
      show _ = loopK (body s1) _
      simp only [loopK]
    | false => rfl
  | exc x s1 => rfl
  | err => rfl
section
variable {T : Tb} {b b0 b1 : Bs} {σ : St} {s : S} {W : WX} {D : Ends}
/-- what is wanted behind a turn -/
def NextT (T : Tb) (b0 : Bs) (r : S → Fl) (D : Ends) (W : WX) : St → Hp → Prop := fun σ H => ∃ b s, b.H = H ∧ At T b s σ ∧ GoS b0 b [] ∧ PostS T b (r s) D W
theorem PostS.loop {fl : Fl} {r : S → Fl} (h : PostS T b (loopK fl r) D W) (g : GoS b0 b []) : PostS T b fl { D with nx := NextT T b0 r D W, ct := NextT T b0 r D W, bk := D.nx } W := by
  cases fl with
  | next s' => exact fun σ' b' g' A => ⟨b', s', rfl, A, g.trans g', PostS.shift h g'⟩
  | cont s' => exact fun σ' b' g' A => ⟨b', s', rfl, A, g.trans g', PostS.shift h g'⟩
  | brk s' => exact fun σ' b' g' A => h σ' b' g' A
  | ret k d sto => exact h
  | exc x s' => exact h
  | err => exact h
theorem for_gen {J : It} {n : Nat} {g : TG} {tb : TS} {σ : St} {H : Hp} (Pv : Nat → St → Hp → Prop) (h0 : Pv 0 σ H)
    (hs : ∀ i σ H, i < n → Pv i σ H → J.go i H ∧ ∀ x H', J.yld i H x H' → g x σ H' fun σ2 H2 => tb { D with nx := Pv (i + 1), ct := Pv (i + 1), bk := D.nx } σ2 H2)
    (hd : ∀ σ H, Pv n σ H → J.stop n H ∧ D.nx σ H) :
    ∃ W : Nat → Nat → St → Hp → Prop, (∃ m, W 0 m σ H) ∧ ∀ i m σ H, W i m σ H →
      (J.stop i H ∧ D.nx σ H) ∨ (J.go i H ∧ ∃ N : St → Hp → Prop, (∀ σ' H', N σ' H' → ∃ m', m' < m ∧ W (i + 1) m' σ' H') ∧ ∀ x H', J.yld i H x H' → g x σ H' fun σ2 H2 => tb { D with nx := N, ct := N, bk := D.nx } σ2 H2) := by
  refine ⟨fun i m σ H => i + m = n ∧ Pv i σ H, ⟨n, Nat.zero_add n, h0⟩, fun i m σ H ⟨e, p⟩ => ?_⟩
  cases m with
  | zero =>
    rw [Nat.add_zero] at e
    subst e
    exact .inl (hd σ H p)
  | succ m =>
    obtain ⟨h1, h2⟩ := hs i σ H (by omega) p
    exact .inr ⟨h1, Pv (i + 1), fun σ' H' p' => ⟨m, Nat.lt_succ_self m, by omega, p'⟩, h2⟩
/-- a target takes frozen data -/
def TgOk (T : Tb) (t : Tg) (gt : TG) : Prop := ∀ (b : Bs) (s s3 : S) (σ : St) (d : BT.D) (v : V) (P : St → Hp → Prop), At T b s σ → Rp T b.ρ b.Φ d v → BT.assign t 0 d s = some s3 →
  (∀ σ2 b2, b2.H = b.H → GoS b b2 [] → At T b2 s3 σ2 → P σ2 b2.H) → gt v σ b.H P
theorem tg_name {i : Nat} : TgOk T (.name i) (gName i) := by
  intro b s s3 σ d v P A r h k
  unfold BT.assign at h
  simp only at h
  by_cases hl : i < s.env.length
  · rw [if_pos hl] at h
    cases h
    obtain ⟨b2, e, g, A2⟩ := Go.put (k := 0) A (Go.refl b) A hl (.frz r)
    show P (σ.set i (some v)) b.H
    rw [← e]
    exact k _ b2 e g A2
  · rw [if_neg hl] at h; cases h
theorem tg_tup {K : PySem.W.Frag} {is : List Nat} (hK : K = T.K) : TgOk T (.tup is) (gTup K is.length (gSlots is)) := by
  intro b s s3 σ d v P A r h k
  unfold BT.assign at h
  cases d with
  | tup ds =>
    simp only at h
    by_cases hc : is.length = ds.length ∧ is.all (· < s.env.length) = true
    · rw [if_pos hc] at h
      cases h
      obtain ⟨a, vs, hv, hq, hl⟩ := r.tup'
      obtain ⟨own', A', h'⟩ := At.puts (OX := b.OX) (o := []) A hc.1 (fun i m => by simpa using List.all_eq_true.mp hc.2 i m) (fun a => by simp) List.nodup_nil (fun _ m => by simp at m) (fun _ m => by simp at m) (RpKL.ofL (H := b.H) hl)
      refine ⟨a, vs, hv, by rw [hK]; exact same_t b.le hq, by rw [← hl.len, hc.1], gSlots_go (by rw [← hl.len, hc.1]) ?_⟩
      exact k _ { b with OX := b.OX, own := own' } rfl ⟨List.prefix_refl _, rfl, rfl, h', List.nodup_nil, fun _ m => by simp at m, fun _ m => by simp at m, fun a => by simp⟩ A'
    · rw [if_neg hc] at h; cases h
  | _ => simp at h
end
section
variable {T : Tb} {C : CF} {Wf : Nat} {W : WX} {X : Cx} {pos : Pos} {tg e f : Expr} {ce cf : CE} {sts : List Stmt} {css : CSs} {t : Tg} {gt : TG}
/-- the turns over the data ds, however they are walked -/
theorem for_core {b b0 : Bs} {s : S} {σ : St} {D : Ends} {J : It} {ds : List BT.D} (ht : TgOk T t gt) (A : At T b s σ) (g0 : GoS b0 b [])
    (h : PostS T b (forL (fun d s2 => match BT.assign t 0 d s2 with | some s3 => evalSs C Wf css s3 | none => .err) ds s) D W)
    (go : ∀ i d H, ds[i]? = some d → (∃ b, b.H = H ∧ GoS b0 b []) → J.go i H ∧ ∀ x H', J.yld i H x H' → H' = H ∧ ∀ b, b.H = H → GoS b0 b [] → Rp T b.ρ b.Φ d x)
    (stop : ∀ H, (∃ b, b.H = H ∧ GoS b0 b []) → J.stop ds.length H) :
    ∃ Wp : Nat → Nat → St → Hp → Prop, (∃ m, Wp 0 m σ b.H) ∧ ∀ i m σ H, Wp i m σ H →
      (J.stop i H ∧ D.nx σ H) ∨ (J.go i H ∧ ∃ N : St → Hp → Prop, (∀ σ' H', N σ' H' → ∃ m', m' < m ∧ Wp (i + 1) m' σ' H') ∧ ∀ x H', J.yld i H x H' → gt x σ H' fun σ2 H2 => tSs T C Wf W css { D with nx := N, ct := N, bk := D.nx } σ2 H2) := by
  refine for_gen (n := ds.length) (fun i σ H => NextT T b0 (forL (fun d s2 => match BT.assign t 0 d s2 with | some s3 => evalSs C Wf css s3 | none => .err) (ds.drop i)) D W σ H) ⟨b, s, rfl, A, g0, h⟩ (fun i σ H hi ⟨b1, s1, eH, A1, g1, h1⟩ => ?_) fun σ H ⟨b1, s1, eH, A1, g1, h1⟩ => ?_
  · subst eH
    obtain ⟨d, hd⟩ : ∃ d, ds[i]? = some d := ⟨ds[i], List.getElem?_eq_getElem hi⟩
    obtain ⟨k1, k2⟩ := go i d b1.H hd ⟨b1, rfl, g1⟩
    refine ⟨k1, fun x H' y => ?_⟩
    obtain ⟨rfl, k3⟩ := k2 x H' y
    have hdrop : ds.drop i = d :: ds.drop (i + 1) := by
      rw [List.drop_eq_getElem_cons hi]
      congr 1
      exact Option.some.inj ((List.getElem?_eq_getElem hi).symm.trans hd)
    rw [hdrop, forL_cons] at h1
    cases ha : BT.assign t 0 d s1 with
    | none => simp only [ha] at h1; exact h1.elim
    | some s3 =>
      simp only [ha] at h1
      exact ht b1 s1 s3 σ d x _ A1 (k3 b1 rfl g1) ha fun σ2 b2 e2 g2 A2 => ⟨b2, s3, rfl, A2, PostS.loop (h1.shift g2) (g1.trans g2)⟩
  · subst eH
    rw [List.drop_length] at h1
    exact ⟨stop b1.H ⟨b1, rfl, g1⟩, h1 σ b1 (GoS.refl b1) A1⟩
theorem evalEs_one (C : CF) (c : CE) (s : S) : evalEs C (.cons c .nil) s = (evalE C c s).bind fun x s1 => .ok [x] s1 := by
  simp only [evalEs]
  rfl
theorem ss_range1 {p p2 : Pos} (hpa : PassesOwn (model X.prog X.w) X.A X.env X.xe) (hc : X.calm = true) (hg : Gl X "range") (hm : X.mg "range" = none) (hpg : PG X tg gt) (ht : TgOk T t gt) (ha : PA X [e] (tEs T C W (.cons ce .nil))) (hs : starEach [e] X.env = [(false, eval e X.env)]) (hb : PSs X sts (tSs T C Wf W css)) :
    PS X (.For tg (.Call (.Name "range" p) [e] [] p2) sts [] pos) (tS T C Wf W (.for t (.range1 ce) css)) := PS.weak (ps_for hpa hc (pi_range1 hg hm ha hs) hpg hb) fun D σ H ⟨b, s, eH, A, h⟩ => by
  subst eH
  unfold evalS at h
  simp only [evalI] at h
  refine ⟨b, s, rfl, A, ?_⟩
  rw [evalEs_one]
  cases ho : evalE C ce s with
  | err => rw [ho] at h; exact h
  | exc x s1 => rw [ho] at h; exact fun c d b' g A' r => h σ c d b' (g.toS A) A' r
  | ok x s1 =>
    rw [ho] at h
    simp only [Out.bind] at h
    intro vs b1 o1 g1 A1 E1
    cases E1 with
    | @cons _ w _ _ oa ob Ea Er =>
      cases Er
      have see := Ea.see
      cases hd : x.d with
      | int n =>
        rw [hd] at h see
        simp only at h
        by_cases hn : n < 4611686018427387904 ∧ -4611686018427387904 ≤ n
        · rw [if_pos hn] at h
          simp only [Out.fl] at h
          refine ⟨n, by rw [see.int'], by have := hn.2; omega, by have := hn.1; omega, ?_⟩
          have A1' := At.drop g1 A1
          have gs := g1.drop.toS A
          refine for_core (b := b1.out b.OX) ht A1' (GoS.refl _) (h.shift gs) (fun i d H hd' _ => ?_) fun H _ => ?_
          · rw [List.getElem?_map] at hd'
            obtain ⟨j, hj, rfl⟩ := Option.map_eq_some_iff.mp hd'
            have hi := (List.getElem?_eq_some_iff.mp hj).1
            rw [List.length_range] at hi
            have : j = i := by
              have h2 := (List.getElem?_eq_some_iff.mp hj).2
              rw [List.getElem_range] at h2
              exact h2.symm
            subst this
            refine ⟨hi, fun x H' y => ⟨y.1, fun b' _ _ => ?_⟩⟩
            rw [y.2, Int.zero_add]
            exact .int _
          · show n.toNat ≤ (List.map _ (List.range n.toNat)).length
            rw [List.length_map, List.length_range]
            exact Nat.le_refl _
        · rw [if_neg hn] at h; exact h.elim
      | _ => rw [hd] at h; exact h.elim
theorem ss_range2 {e f : Expr} {ce cf : CE} {p p2 : Pos} (hpa : PassesOwn (model X.prog X.w) X.A X.env X.xe) (hc : X.calm = true) (hg : Gl X "range") (hm : X.mg "range" = none) (hpg : PG X tg gt) (ht : TgOk T t gt) (ha : PA X [e, f] (tEs T C W (.cons ce (.cons cf .nil)))) (hs : starEach [e, f] X.env = [(false, eval e X.env), (false, eval f X.env)]) (hs2 : starEach [f] X.env = [(false, eval f X.env)]) (hb : PSs X sts (tSs T C Wf W css)) :
    PS X (.For tg (.Call (.Name "range" p) [e, f] [] p2) sts [] pos) (tS T C Wf W (.for t (.range2 ce cf) css)) := PS.weak (ps_for hpa hc (pi_range2 hg hm ha hs hs2) hpg hb) fun D σ H ⟨b, s, eH, A, h⟩ => by
  subst eH
  unfold evalS at h
  simp only [evalI] at h
  refine ⟨b, s, rfl, A, ?_⟩
  cases ho : evalEs C (.cons ce (.cons cf .nil)) s with
  | err => rw [ho] at h; exact h
  | exc x s1 => rw [ho] at h; exact fun c d b' g A' r => h σ c d b' (g.toS A) A' r
  | ok xs s1 =>
    rw [ho] at h
    simp only [Out.bind] at h
    intro vs b1 o1 g1 A1 E1
    split at h
    · rename_i x y
      cases E1 with
      | @cons _ v _ ws _ _ Ea Er =>
        cases Er with
        | @cons _ w _ us _ _ Eb En =>
          cases En
          have sx := Ea.see
          have sy := Eb.see
          split at h
          · rename_i m n ex ey
            rw [ex] at sx
            rw [ey] at sy
            by_cases hn : (n < 4611686018427387904 ∧ -4611686018427387904 ≤ n) ∧ (m < 4611686018427387904 ∧ -4611686018427387904 ≤ m)
            · rw [if_pos hn] at h
              simp only [Out.fl] at h
              refine ⟨m, n, by rw [sx.int', sy.int'], ⟨by have := hn.2.2; omega, by have := hn.2.1; omega, by have := hn.1.2; omega, by have := hn.1.1; omega⟩, ?_⟩
              have A1' := At.drop g1 A1
              have gs := g1.drop.toS A
              refine for_core (b := b1.out b.OX) ht A1' (GoS.refl _) (h.shift gs) (fun i d H hd' _ => ?_) fun H _ => ?_
              · rw [List.getElem?_map] at hd'
                obtain ⟨j, hj, rfl⟩ := Option.map_eq_some_iff.mp hd'
                have hi := (List.getElem?_eq_some_iff.mp hj).1
                rw [List.length_range] at hi
                have : j = i := by
                  have h2 := (List.getElem?_eq_some_iff.mp hj).2
                  rw [List.getElem_range] at h2
                  exact h2.symm
                subst this
                refine ⟨hi, fun x H' y => ⟨y.1, fun b' _ _ => ?_⟩⟩
                rw [y.2]
                exact .int _
              · show (n - m).toNat ≤ (List.map _ (List.range (n - m).toNat)).length
                rw [List.length_map, List.length_range]
                exact Nat.le_refl _
            · rw [if_neg hn] at h; exact h.elim
          · exact h.elim
    · exact h.elim
theorem ss_val (hK : X.K = T.K) (hpa : PassesOwn (model X.prog X.w) X.A X.env X.xe) (hc : X.calm = true) (hpg : PG X tg gt) (ht : TgOk T t gt) (he : PE X e (tE T C W ce)) (hb : PSs X sts (tSs T C Wf W css)) (hs : ∀ x, foldedSetIterable e X.env x = pure x) :
    PS X (.For tg e sts [] pos) (tS T C Wf W (.for t (.val ce) css)) := by
  have pL := ps_for (pos := pos) hpa hc (pi_list (tg := tg) he) hpg hb hs
  have pT := ps_for (pos := pos) hpa hc (pi_tup (tg := tg) he) hpg hb hs
  have pS := ps_for (pos := pos) hpa hc (pi_str (tg := tg) he) hpg hb hs
  refine ⟨fun pins ss σ H D I q => ?_⟩
  obtain ⟨b, s, eH, A, h⟩ := q
  subst eH
  unfold evalS at h
  simp only [evalI] at h
  -- what is walked once the value is there
  cases ho : evalE C ce s with
  | err => rw [ho] at h; exact h.elim
  | exc x s1 =>
    rw [ho] at h
    refine pL.run pins ss σ b.H D I ⟨b, s, rfl, A, ?_⟩
    rw [ho]
    exact fun c d b' g A' r => h σ c d b' (g.toS A) A' r
  | ok x s1 =>
    rw [ho] at h
    simp only [Out.bind] at h
    have walk : ∀ {a : Addr} {vs : List V} {ds : List BT.D} {b0 : Bs}, RpL T b0.ρ b0.Φ ds vs → ∀ i d, ds[i]? = some d → ∃ v, vs[i]? = some v ∧ ∀ b, GoS b0 b [] → Rp T b.ρ b.Φ d v := fun {a vs ds b0} hl i d hd => by
      obtain ⟨v, hv, r⟩ := hl.get hd
      exact ⟨v, hv, fun b g => r.mono g.phi g.pre⟩
    cases x with
    | bor k d => cases d <;> exact (show False from h).elim
    | own k d =>
      cases d with
      | lst ds =>
        simp only [Out.fl] at h
        refine pL.run pins ss σ b.H D I ⟨b, s, rfl, A, ?_⟩
        rw [ho]
        intro v b1 o1 g1 A1 E1
        cases E1 with
        | own r =>
          have fr : Rp T b1.ρ (b1.out b.OX).Φ (.lst ds) v := r.freeze g1.outLe (List.prefix_refl _) (g1.vis A1)
          obtain ⟨a, vs, rfl, hq, hl⟩ := fr.lst'
          have gs := g1.drop.toS A
          have at0 : ∀ H, (∃ b', b'.H = H ∧ GoS (b1.out b.OX) b' []) → SqL X.K H a vs := fun H ⟨b', e, g⟩ => by
            subst e; rw [hK]; exact same_l (g.phi.trans b'.le) hq
          refine ⟨a, rfl, ⟨vs, at0 b1.H ⟨b1.out b.OX, rfl, GoS.refl _⟩⟩, for_core (b := b1.out b.OX) ht (At.drop g1 A1) (GoS.refl _) (h.shift gs) (fun i d H hd hb => ?_) fun H hb => ⟨vs, at0 H hb, by rw [hl.len]; exact Nat.le_refl _⟩⟩
          obtain ⟨u, hu, ru⟩ := walk (a := a) (b0 := b1.out b.OX) hl i d hd
          refine ⟨⟨vs, u, at0 H hb, hu⟩, fun x H' y => ⟨y.1, fun b' e g => ?_⟩⟩
          have := (y.2 vs (at0 H hb)).symm.trans hu
          cases this
          exact ru b' g
      | tup ds =>
        simp only [Out.fl] at h
        refine pT.run pins ss σ b.H D I ⟨b, s, rfl, A, ?_⟩
        rw [ho]
        intro v b1 o1 g1 A1 E1
        cases E1 with
        | own r =>
          have fr : Rp T b1.ρ (b1.out b.OX).Φ (.tup ds) v := r.freeze g1.outLe (List.prefix_refl _) (g1.vis A1)
          obtain ⟨a, vs, rfl, hq, hl⟩ := fr.tup'
          have gs := g1.drop.toS A
          have at0 : ∀ H, (∃ b', b'.H = H ∧ GoS (b1.out b.OX) b' []) → SqT X.K H a vs := fun H ⟨b', e, g⟩ => by
            subst e; rw [hK]; exact same_t (g.phi.trans b'.le) hq
          refine ⟨a, rfl, ⟨vs, at0 b1.H ⟨b1.out b.OX, rfl, GoS.refl _⟩⟩, for_core (b := b1.out b.OX) ht (At.drop g1 A1) (GoS.refl _) (h.shift gs) (fun i d H hd hb => ?_) fun H hb => ⟨vs, at0 H hb, by rw [hl.len]; exact Nat.le_refl _⟩⟩
          obtain ⟨u, hu, ru⟩ := walk (a := a) (b0 := b1.out b.OX) hl i d hd
          refine ⟨⟨vs, u, at0 H hb, hu⟩, fun x H' y => ⟨y.1, fun b' e g => ?_⟩⟩
          have := (y.2 vs (at0 H hb)).symm.trans hu
          cases this
          exact ru b' g
      | str z =>
        simp only [Out.fl] at h
        refine pS.run pins ss σ b.H D I ⟨b, s, rfl, A, ?_⟩
        rw [ho]
        intro v b1 o1 g1 A1 E1
        have see := E1.see
        have gs := g1.drop.toS A
        have hall := see.strAll
        refine ⟨sv z, see.str', for_core (b := b1.out b.OX) ht (At.drop g1 A1) (GoS.refl _) (h.shift gs) (fun i d H hd hb => ?_) fun H hb => ?_⟩
        · rw [List.getElem?_map] at hd
          obtain ⟨c, hc, rfl⟩ := Option.map_eq_some_iff.mp hd
          have hi := (List.getElem?_eq_some_iff.mp hc).1
          refine ⟨show i < (sv z).cps.size by simpa using hi, fun x H' y => ⟨y.1, fun b' e g => ?_⟩⟩
          obtain ⟨c', hc', rfl⟩ := y.2
          have hz : z[i]? = some c' := by simpa using hc'
          rw [hz] at hc
          cases hc
          rw [List.all_eq_true] at hall
          have hc1 : c < 1114112 := by simpa using hall c (List.mem_of_getElem? hz)
          exact .str [c] (by simp [hc1])
        · show (sv z).cps.size ≤ _
          simp
      | _ => exact h.elim
theorem ss_while (hpa : PassesOwn (model X.prog X.w) X.A X.env X.xe) (hcond : PT X e (tT T C W ce)) (hb : PSs X sts (tSs T C Wf W css)) : PS X (.While e sts [] pos) (tS T C Wf W (.whl ce css)) := PS.weak (ps_while hpa hcond hb) fun D σ H ⟨b, s, eH, A, h⟩ => by
  subst eH
  unfold evalS at h
  refine ⟨fun m σ H => NextT T b (whileL (evalT C ce) (evalSs C Wf css) m) D W σ H, ⟨Wf, b, s, rfl, A, GoS.refl b, h⟩, fun m σ H ⟨b1, s1, eH, A1, g1, h1⟩ => ?_⟩
  subst eH
  cases m with
  | zero => exact h1.elim
  | succ m =>
    rw [whileL_succ] at h1
    refine ⟨b1, s1, rfl, A1, (PostS.seq A1 (Go.refl b1) h1).mono fun w H1 ⟨t, s2, b2, o2, e2, g2, A2, E2, h2⟩ => ?_⟩
    subst e2
    obtain ⟨rfl, rfl⟩ := E2
    have gs := g2.toS A1
    cases w with
    | true =>
      rw [if_pos rfl]
      exact ⟨_, fun σ' H' n => ⟨m, Nat.lt_succ_self m, n⟩, b2, s2, rfl, A2, PostS.loop (h2.shift gs) (g1.trans gs)⟩
    | false =>
      rw [if_neg Bool.false_ne_true]
      exact h2 σ b2 gs A2
end
end BT
end

section
/-! BtLoop2: for over enumerate(list). -/
namespace BT
open PySem PySem.Spec L2
open PyProof.Rows hiding St
set_option autoImplicit false
section
variable {T : Tb} {C : CF} {Wf : Nat} {W : WX} {X : Cx} {pos : Pos} {tg e f : Expr} {ce cf : CE} {sts : List Stmt} {css : CSs} {t : Tg} {gt : TG}
theorem GoS.grows {b b1 : Bs} {s : S} {σ : St} {H' : Hp} (g : GoS b b1 []) (A : At T b1 s σ) (h : Same b1.H H') : GoS b (b1.heap H') [] :=
  g.trans ((Go.refl b1).grows h |>.toS A)
/-- the turns over the data ds, where a turn may lay new objects -/
theorem for_core2 {b b0 : Bs} {s : S} {σ : St} {D : Ends} {J : It} {ds : List BT.D} (ht : TgOk T t gt) (A : At T b s σ) (g0 : GoS b0 b [])
    (h : PostS T b (forL (fun d s2 => match BT.assign t 0 d s2 with | some s3 => evalSs C Wf css s3 | none => .err) ds s) D W)
    (go : ∀ i d H, ds[i]? = some d → (∃ b, b.H = H ∧ GoS b0 b []) → J.go i H ∧ ∀ x H', J.yld i H x H' → Same H H' ∧ ∀ b s σ, b.H = H → At T b s σ → GoS b0 b [] → Rp T b.ρ (b.heap H').Φ d x)
    (stop : ∀ H, (∃ b, b.H = H ∧ GoS b0 b []) → J.stop ds.length H) :
    ∃ Wp : Nat → Nat → St → Hp → Prop, (∃ m, Wp 0 m σ b.H) ∧ ∀ i m σ H, Wp i m σ H →
      (J.stop i H ∧ D.nx σ H) ∨ (J.go i H ∧ ∃ N : St → Hp → Prop, (∀ σ' H', N σ' H' → ∃ m', m' < m ∧ Wp (i + 1) m' σ' H') ∧ ∀ x H', J.yld i H x H' → gt x σ H' fun σ2 H2 => tSs T C Wf W css { D with nx := N, ct := N, bk := D.nx } σ2 H2) := by
  refine for_gen (n := ds.length) (fun i σ H => NextT T b0 (forL (fun d s2 => match BT.assign t 0 d s2 with | some s3 => evalSs C Wf css s3 | none => .err) (ds.drop i)) D W σ H) ⟨b, s, rfl, A, g0, h⟩ (fun i σ H hi ⟨b1, s1, eH, A1, g1, h1⟩ => ?_) fun σ H ⟨b1, s1, eH, A1, g1, h1⟩ => ?_
  · subst eH
    obtain ⟨d, hd⟩ : ∃ d, ds[i]? = some d := ⟨ds[i], List.getElem?_eq_getElem hi⟩
    obtain ⟨k1, k2⟩ := go i d b1.H hd ⟨b1, rfl, g1⟩
    refine ⟨k1, fun x H' y => ?_⟩
    obtain ⟨hS, k3⟩ := k2 x H' y
    have hdrop : ds.drop i = d :: ds.drop (i + 1) := by
      rw [List.drop_eq_getElem_cons hi]
      congr 1
      exact Option.some.inj ((List.getElem?_eq_getElem hi).symm.trans hd)
    rw [hdrop, forL_cons] at h1
    cases ha : BT.assign t 0 d s1 with
    | none => simp only [ha] at h1; exact h1.elim
    | some s3 =>
      simp only [ha] at h1
      have gg : GoS b1 (b1.heap H') [] := (GoS.refl b1).grows A1 hS
      have h1 := h1.shift gg
      exact ht (b1.heap H') s1 s3 σ d x _ (A1.grows hS) (k3 b1 s1 σ rfl A1 g1) ha fun σ2 b2 e2 g2 A2 => ⟨b2, s3, rfl, A2, PostS.loop (h1.shift g2) ((g1.trans gg).trans g2)⟩
  · subst eH
    rw [List.drop_length] at h1
    exact ⟨stop b1.H ⟨b1, rfl, g1⟩, h1 σ b1 (GoS.refl b1) A1⟩
theorem enumD_get : ∀ (ds : List BT.D) (n i : Nat), (enumD n ds)[i]? = (ds[i]?).map fun d => .tup [.int ((n + i : Nat) : Int), d]
  | [], n, i => by simp [enumD]
  | d :: ds, n, 0 => by simp [enumD]
  | d :: ds, n, i + 1 => by
    simp only [enumD, List.getElem?_cons_succ]
    rw [enumD_get ds (n + 1) i, show n + 1 + i = n + (i + 1) by omega]
theorem enumD_len : ∀ (ds : List BT.D) (n : Nat), (enumD n ds).length = ds.length
  | [], n => rfl
  | d :: ds, n => by simp [enumD, enumD_len ds (n + 1)]
theorem ss_enum {p p2 : Pos} {elts : List Expr} {kk : Nat} {tpos : Pos} (hK : X.K = T.K) (hpa : PassesOwn (model X.prog X.w) X.A X.env X.xe) (hc : X.calm = true) (hg : Gl X "enumerate") (hm : X.mg "enumerate" = none) (hpg : PG X (.Tuple elts kk tpos) gt) (ht : TgOk T t gt) (he : PA X [e] (tEs T C W (.cons ce .nil)))
    (hs : starEach [e] X.env = [(false, eval e X.env)]) (hb : PSs X sts (tSs T C Wf W css)) :
    PS X (.For (.Tuple elts kk tpos) (.Call (.Name "enumerate" p) [e] [] p2) sts [] pos) (tS T C Wf W (.for t (.enum ce) css)) := by
  refine PS.weak (ps_for hpa hc (pi_enum hg hm he hs) hpg hb (fun _ => rfl)) fun D σ H ⟨b, s, eH, A, h⟩ => ?_
  subst eH
  unfold evalS at h
  simp only [evalI] at h
  refine ⟨b, s, rfl, A, ?_⟩
  rw [evalEs_one]
  cases ho : evalE C ce s with
  | err => rw [ho] at h; exact h
  | exc x s1 =>
    rw [ho] at h
    exact fun c d b' g A' r => h σ c d b' (g.toS A) A' r
  | ok x s1 =>
    rw [ho] at h
    simp only [Out.bind] at h
    intro vs b1 o1 g1 A1 E1
    cases E1 with
    | @cons _ v _ _ oa ob E1 Er =>
    cases Er
    rw [List.append_nil] at g1
    cases x with
    | bor k d => cases d <;> exact (show False from h).elim
    | own k d =>
      cases d with
      | lst ds =>
        simp only [Out.fl] at h
        cases E1 with
        | own r =>
          have fr : Rp T b1.ρ (b1.out b.OX).Φ (.lst ds) v := r.freeze g1.outLe (List.prefix_refl _) (g1.vis A1)
          obtain ⟨a, vs, rfl, hq, hl⟩ := fr.lst'
          have gs := g1.drop.toS A
          have at0 : ∀ H, (∃ b', b'.H = H ∧ GoS (b1.out b.OX) b' []) → SqL X.K H a vs := fun H ⟨b', e, g⟩ => by
            subst e; rw [hK]; exact same_l (g.phi.trans b'.le) hq
          refine ⟨a, vs, rfl, at0 b1.H ⟨b1.out b.OX, rfl, GoS.refl _⟩, for_core2 (b := b1.out b.OX) ht (At.drop g1 A1) (GoS.refl _) (h.shift gs) (fun i d H hd hb => ?_) fun H hb => ⟨vs, at0 H hb, by rw [enumD_len, hl.len]; exact Nat.le_refl _⟩⟩
          rw [enumD_get] at hd
          obtain ⟨d1, hd1, rfl⟩ := Option.map_eq_some_iff.mp hd
          obtain ⟨u, hu, ru⟩ := hl.get hd1
          refine ⟨⟨vs, u, at0 H hb, hu⟩, fun x H' y => ?_⟩
          obtain ⟨Tt, y0, rfl, hn, rfl, hy⟩ := y
          have hS : Same H (upd H Tt (.tup [.int (i : Nat), y0])) := fun z w q => by
            rw [upd_ne (ne_of_none q hn)]
            exact q
          refine ⟨hS, fun b' s' σ' e A' g => ?_⟩
          subst e
          have e1 := (hy vs (at0 b'.H hb)).symm.trans hu
          cases e1
          have hΦ : Same b'.Φ (b'.heap (upd b'.H Tt (.tup [.int (i : Nat), u]))).Φ := hid_mono fun a o e p => ⟨p, hS a o e⟩
          refine .tup (vs := [.int (i : Nat), u]) (.inl (.inl ?_)) (.cons ?_ (.cons (ru.mono (g.phi.trans hΦ) g.pre) .nil))
          · show hid _ _ Tt = _
            rw [hid_at]
            · exact upd_same
            · intro q
              obtain ⟨w, hw, _⟩ := A'.ownH Tt q
              rw [hn] at hw
              cases hw
          · have : ((0 + i : Nat) : Int) = ((i : Nat) : Int) := by simp
            rw [this]
            exact .int _
      | _ => exact h.elim
end
end BT
end

section
/-! BtInit: an exception class of the text whose __init__ begins with super().__init__(..), over ValueError. -/
namespace BT
open PySem PySem.Spec PyProof.Rows L2 NdefX
set_option autoImplicit false
section
variable {CX : CXT} {P : Program} {w : World} {K : PySem.W.Frag} {mg : PySem.Str → Option Value} {base : Heap} {N ps : List PySem.Str} {F : NF} {f D cc C a : Addr} {A : Around} {outer : List Env} {s s1 : Shared} {H H1 : Hp} {E : XK}
  {pins : List (Addr × Obj)} {σ : L2.St} {body : List Stmt}
/-- what the text's top says of the class at D (its own __init__, the function at f, over ValueError), whose instances are of the class at C -/
structure SupC (P : Program) (K : PySem.W.Frag) (mg : PySem.Str → Option Value) (F : NF) (f D cc C : Addr) : Prop where
  fn : ∃ oc od doc pm an ctv sl, K.lookup f = some ⟨oc, od, .func (PySem.W.fnX F.name F.qual F.params F.body F.scope F.cl .none .none doc pm an (.ref F.c) ctv), sl⟩
  cl : F.cl = [(("__class__" : PySem.Str), cc)]
  ar : ∃ ar, (F.params.posonlyargs ++ F.params.args).head? = some ar ∧ ar.arg = ("self" : PySem.Str)
  code : ∃ oc od vs sl file tf, K.lookup F.c = some ⟨oc, od, .fields vs, sl⟩ ∧ vs[2]? = some (.str file tf) ∧ ((P.main.file : PySem.Str) == file) = true
  cell : ∃ oc od sl, K.lookup cc = some ⟨oc, od, .cell (some (.ref D)), sl⟩
  cls : ∃ cd, PySem.W.clsIn K D = some cd
  sub : PySem.W.mroIn K C (.ref D) = some true
  sup : mg "super" = none
  ks : F.scope.names.lookup ("super" : PySem.Str) = some .globalImplicit
  kc : F.scope.names.lookup ("__class__" : PySem.Str) = some .free
  ka : F.scope.names.lookup ("self" : PySem.Str) = some .local
  kk : F.scope.kind = .function
  top : (P.main.scope.names.lookup ("super" : PySem.Str)).isSome = false
  opq : PySem.W.nsIn K cStatics "thirdparty.any" = some none
  ini : PySem.W.ks_superIn K C D "__init__" = some (some (.builtin "ValueError.__init__"))
  vE : PySem.W.subIn K (.ref C) (.type "ValueError") = some true
/-- super() -/
theorem sup_node {p0 p1 : Pos} {attr : PySem.Str} {whole : Sem Value} {d : Option Addr} {Q : Value → Shared → Prop} {E1 : Value → Shared → Prop} (S : SupC P K mg F f D cc C) (hat : (attr == ("__class__" : PySem.Str)) = false) (hN : N[0]? = some ("self" : PySem.Str))
    (I : Inv (ncx CX P w K mg base N F f A outer s H E) pins σ H1 s1) (hσ : σ[0]? = some (some (.ref a))) (ha : H1 a = some (exo a C d))
    (h : ∀ so s2, s2.heap.get? so = some (PySem.W.ks_superObj D a C) → Inv (ncx CX P w K mg base N F f A outer s H E) pins σ H1 s2 → Q (.ref so) s2) :
    PySem.wpAt (model P w) (A.deeper (envF F f s.heap.objs.size)) (.func body (envF F f s.heap.objs.size)) (attributeBase (.Call (.Name "super" p0) [] [] p1) attr (envF F f s.heap.objs.size) whole) Q E1 s1 := by
  obtain ⟨oc, od, doc, pm, an, ctv, sl, lk⟩ := S.fn
  obtain ⟨ar, ar1, ar2⟩ := S.ar
  obtain ⟨oc2, od2, vs, sl2, file, tf, lc, hvs, hfile⟩ := S.code
  obtain ⟨oc3, od3, sl3, lcc⟩ := S.cell
  obtain ⟨cdD, hD⟩ := S.cls
  have X : K.In s1.heap := I.kIn
  obtain ⟨oD, hD1, hD2⟩ : ∃ oD, s1.heap.get? D = some oD ∧ oD.data = .cls cdD := by
    unfold PySem.W.clsIn at hD
    split at hD
    · rename_i c d cd' sl ho
      cases hD
      exact ⟨_, X _ _ ho, rfl⟩
    · cases hD
  obtain ⟨t1, hx⟩ := exo_at I.hok ha
  obtain ⟨mb, hb1, hb2⟩ := I.mod.blt
  have hcell : s1.heap.IsCell cc (some (.ref D)) := ⟨_, X _ _ lcc, rfl⟩
  refine ks_wpAt_super_base (env := envF F f s.heap.objs.size) S.ks S.kc hat rfl (X _ _ lk) rfl ar1 rfl (X _ _ lc) rfl hvs hfile S.top ?_
  refine PySem.W.ks_loadName_global S.kk S.ks (Calls.loadGlobal_builtin (mg := mg) (mb := mb) (v := .type "super") (I.mod.glob.keeps I.bk) S.sup (hb1.keeps I.bk) ((hb2 _ (by decide)).trans (by first | boot_by_name | rfl | kernel_rfl | decide +kernel)) ⟨rfl, ?_⟩)
  refine wpAny_loadName_free S.kk S.kc (by show F.cl.lookup _ = _; rw [S.cl]; rfl) hcell ?_
  obtain ⟨m, hns, hlk⟩ := I.loc
  obtain ⟨u, ru, lu⟩ := hlk 0 "self" _ hN hσ (.inl S.ka)
  have hm : m "self" = some (.ref a) := by
    rcases lu with ⟨_, e⟩ | ⟨e, _⟩
    · rw [e]; exact congrArg some ru
    · have ka : (envF F f s.heap.objs.size).kindOf "self" = some .local := S.ka
      have e : (envF F f s.heap.objs.size).kindOf "self" = some .cell ∨ (envF F f s.heap.objs.size).kindOf "self" = some .free := e
      rw [ka] at e
      rcases e with e | e <;> cases e
  rw [ar2]
  refine wpAny_loadName_local S.kk S.ka hns hm ?_
  obtain ⟨hh, g, dd, t, os⟩ := s1
  refine ks_wpAny_isType_cls hD1 hD2 ⟨rfl, ?_⟩
  refine ks_wpAny_call_super hD1 hD2 hx rfl (fun c e => by cases e) (PySem.W.looks_mroIn X S.sub) (fun h' e k => ?_)
  exact h _ _ e (I.kept (t' := t) k)
/-- super().__init__ -/
theorem sup_meth {so : Addr} {pl : Sem Bool} {Q : Value × List Value → Shared → Prop} {E1 : Value → Shared → Prop} {A1 : Around} (S : SupC P K mg F f D cc C)
    (I : Inv (ncx CX P w K mg base N F f A outer s H E) pins σ H1 s1) (ha : H1 a = some (exo a C none)) (hso : s1.heap.get? so = some (PySem.W.ks_superObj D a C))
    (h : ∀ q s2, s2.heap.get? q = some (PySem.W.kxs_mw "ValueError.__init__" a) → s1.heap.objs.size ≤ q → Inv (ncx CX P w K mg base N F f A outer s H E) pins σ H1 s2 → Q (.ref q, []) s2) : wpAny (model P w) A1 (getMethod (.ref so) "__init__" pl) Q E1 s1 := by
  have X : K.In s1.heap := I.kIn
  obtain ⟨t1, hx⟩ := exo_at I.hok ha
  have J : PySem.W.InstAt s1.heap a _ C none := ⟨hx, rfl, rfl, trivial⟩
  have hI : PySem.W.Looks (model P w) s1.heap (isInstance (.ref a) (.type "ValueError")) true := J.type.andThen (PySem.W.looks_subIn X S.vE)
  have hm := S.ini
  obtain ⟨hh, g, d, t, os⟩ := s1
  cases hc : PySem.W.clsIn K C with
  | none => unfold PySem.W.ks_superIn at hm; rw [hc] at hm; cases hm
  | some cd =>
    unfold PySem.W.ks_superIn at hm
    rw [hc] at hm
    refine PySem.W.kxs_getMethod PySem.W.kxs_ValueError hso (PySem.W.looks_opaque X S.opq) (l₀ := cd.mro) ?_ rfl X hm hI (PySem.W.ks_ne X J hc) (by decide) ?_
    · exact fun A Q E s k q => wpAny_bind ((PySem.W.looks_clsIn X hc) A _ E s k (wpAny_pure q))
    · exact h _ _ (Heap.get?_push_at rfl rfl) (Nat.le_refl _) (I.kept (t' := t + 1) fun b o e => Heap.get?_push_of_some _ e)
/-- .. called -/
theorem bw_call {X : Cx} {u : Addr} {us : List Value} {Q : Value → Shared → Prop} {E1 : Value → Shared → Prop} {A1 : Around} (T : OexC X.K C) (I : Inv X pins σ H1 s1) (e : H1 a = some (exo a C none)) (hu : s1.heap.get? u = some (PySem.W.kxs_mw "ValueError.__init__" a))
    (hl : us.length ≤ sizeLine) (h : ∀ s', Inv X pins σ H1 s' → Q .none s') : wpAny (model X.prog X.w) A1 (call (.ref u) us) Q E1 s1 := by
  obtain ⟨nm, q, N, bs, bm, sn, sub, ab, col, dd, k0, k1, k2, k3, k5, hC, hbm⟩ := T.cls
  obtain ⟨t1, ho⟩ := exo_at I.hok e
  have hCh := I.kIn _ _ hC
  obtain ⟨hp, g, d, t, os⟩ := s1
  refine wpAny_call (codeAny_of_tree ?_)
  show wpAny _ A1.in1 (callAny (.ref u) ⟨us, []⟩) _ _ _
  simp only [callAny]
  refine wpAny_bind (wpAny_load hu ?_)
  simp only [PySem.W.kxs_mw, show (Value.type "method-wrapper" == Value.type "method" || Value.type "method-wrapper" == Value.type "builtin_function_or_method" || Value.type "method-wrapper" == Value.type "method-wrapper") = true by decide, if_true]
  refine PySem.W.KFB.if_so (by decide) ?_
  refine wpAny_bind (PySem.W.check_bound_init F.excBase_ValueError.toExcCallFacts hCh ho rfl ?_)
  refine wpAny_bind (wpAny_pure (wpAny_pure ?_))
  refine ⟨plainId_quiet F.excBase_ValueError.init.plain _, codeAny_builtin F.excBase_ValueError.initEntry ?_⟩
  refine PySem.W.exc_init_tree (cls := .ref C) (t0 := t1) (dv := none) (c2 := .none) (c3 := .none) (b4 := .bool false) ho hl fun h' k hx ht => ?_
  have J := I.write (t' := t) (x := a) (e := a) (o := exo a C none) (by rw [e]; exact True.intro) (.inl rfl) k ⟨_, hx⟩ (exo_ok hx)
  have eu : upd H1 a (exo a C none) = H1 := by
    funext b
    by_cases hb : b = a
    · rw [hb, upd_same, e]
    · rw [upd_ne hb]
  rw [eu] at J
  exact h _ J
/-- THE RULE: such an __init__ by what stands behind its first line -/
theorem init_fn {k : Nat} {sp : Sp} {oc : Value} {od an : Option Addr} {doc pm ctv : Value} {osl : Array (Option Value)} {arg : Expr} {rest : List Stmt} {p0 p1 p2 p3 p4 : Pos}
    (S : SupC P K mg F f D cc C) (T : OexC K C) (nS : NScope N ps [("__class__" : PySem.Str)] F.scope) (hN : N[0]? = some ("self" : PySem.Str))
    (lk : K.lookup f = some ⟨oc, od, .func (PySem.W.fnX F.name F.qual F.params F.body F.scope F.cl .none .none doc pm an (.ref F.c) ctv), osl⟩) (hcd : PySem.W.codeIn K (.ref F.c) F.qual = true)
    (hbd : F.body = .Expr (.Call (.Attribute (.Call (.Name "super" p0) [] [] p1) "__init__" p2) [arg] [] p3) p4 :: rest) (hst : ∀ env, starEach [arg] env = [(false, eval arg env)])
    (hev : ∀ env : Env, ∃ pl : Sem Bool, eval (.Call (.Attribute (.Call (.Name "super" p0) [] [] p1) "__init__" p2) [arg] [] p3) env = (do
      let ov ← attributeBase (.Call (.Name "super" p0) [] [] p1) "__init__" env (eval (.Call (.Name "super" p0) [] [] p1) env)
      standAt p2.atName
      let (f, first) ← holding [ov] (getMethod ov "__init__" pl)
      callWith p3 f first (backTo p3 (starEach [arg] env)) []))
    (len : ∀ vs H Q E, sp vs H Q E → vs.length = ps.length)
    (hbody : ∀ (A : Around) (outer : List Env) (s : Shared) (H : Hp) (vs : List V) (Q : VK) (E : XK), Room k (A.deeper (envF F f s.heap.objs.size)) → sp vs H Q E →
      ∃ a vs' targ t, vs = .ref a :: vs' ∧ H a = some (exo a C none) ∧ PA (ncx CX P w K mg base N F f A outer s H E) [arg] targ ∧ PSs (ncx CX P w K mg base N F f A outer s H E) rest t ∧
        targ (startF N vs [none]) H fun ws H1 => ws.length ≤ 1000 ∧ H1 a = some (exo a C none) ∧ t { nx := fun _ H' => Q .non H', rt := Q } (startF N vs [none]) H1) :
    FnOk P w K mg base CX (k + 1) f (PySem.W.fnX F.name F.qual F.params F.body F.scope F.cl .none .none doc pm an (.ref F.c) ctv) ps sp := by
  refine ⟨len, fun A outer s H args us vs Q E hr e0 hb r hsp => ?_⟩
  have hl := len _ _ _ _ hsp
  have KX : K.In s.heap := e0.mod.kin.keeps fun b o e => (e0.bs b o e).1
  have lim : s.heap.NoLimit := e0.mod.nolimit.keeps fun b o e => (e0.bs b o e).1
  refine codeAny_call_function hr.depth (KX _ _ lk) rfl nS.co nS.gen rfl (PySem.W.codeRec_of KX hcd) (hb _ _ _ _ ?_)
  refine wpAny_newFunctionEnv nS.nocell (fun ⟨n, _⟩ hy => nS.par n (List.of_mem_zip hy).1) (fun h₁ hns hsb => ⟨lim.fresh _ hsb, ?_⟩) nS.kind
  show codeAny _ _ (.func F.body (envF F f s.heap.objs.size)) _ _
  refine ks_codeAny_funcAt ?_
  have kp : ∀ b o, s.heap.get? b = some o → h₁.get? b = some o := fun b o e => hsb.extBut b o (Nat.ne_of_lt (Heap.lt_size e)) (Heap.get?_push_of_some _ e)
  obtain ⟨a, vs', targ, t, rfl, ha, hpa, hps, hq⟩ := hbody A outer s H vs Q E (hr.deeper _) hsp
  obtain ⟨oc3, od3, sl3, lcc⟩ := S.cell
  have hbs : K.In base := e0.mod.kin
  have C0 : CellsAt F.cl [("__class__" : PySem.Str)] [none] s.heap H := by
    refine ⟨rfl, fun y c e => ?_, fun x y c e1 e2 => ?_, fun i y e => ?_⟩
    · rw [S.cl] at e
      have ec : c = cc := by
        simp only [List.lookup] at e
        split at e
        · exact (Option.some.inj e).symm
        · cases e
      subst ec
      exact ⟨(e0.bs _ _ (hbs _ _ lcc)).2, _, _, KX _ _ lcc, rfl⟩
    · rw [S.cl] at e1 e2
      simp only [List.lookup] at e1 e2
      split at e1
      · rename_i h1
        split at e2
        · rename_i h2
          rw [eq_of_beq h1, eq_of_beq h2]
        · cases e2
      · cases e1
    · cases i with
      | zero =>
        simp at e
        subst e
        exact ⟨cc, by rw [S.cl]; rfl, fun v e => by simp at e⟩
      | succ i => simp at e
  have I : Inv (ncx CX P w K mg base N F f A outer s H E) [] (startF N (.ref a :: vs') [none]) H { s with heap := h₁, toks := s.toks + (ps.zip us).length } := inv_startN nS hr.hd e0 hl r C0 hns kp
  rw [hbd]
  have hσ : (startF N (.ref a :: vs') [none])[0]? = some (some (.ref a)) := by unfold startF; simp
  obtain ⟨pl, he⟩ := hev (envF F f s.heap.objs.size)
  refine ks_wpAt_execs_cons (ks_wpAt_Expr_any (ks_wpAt_MethodCall (pl := pl) (sup_node S (by decide) hN I hσ ha fun so s2 hso I2 => sup_meth S I2 ha hso fun q s3 hu hle I3 => ?_) he) I.quiet)
  have I4 : Inv (ncx CX P w K mg base N F f A outer s H E) [(q, PySem.W.kxs_mw "ValueError.__init__" a)] (startF N (.ref a :: vs') [none]) H s3 := I3.pins_of fun p hp => by
    have ep : p = (q, PySem.W.kxs_mw "ValueError.__init__" a) := by simpa using hp
    subst ep
    refine ⟨hu, I2.hok.fresh hle, fun e => ?_, fun hm => ?_, fun v e => by cases e⟩
    · obtain ⟨m, ⟨o, _, _, ho, _⟩, _⟩ := I2.loc
      exact Nat.lt_irrefl _ (Nat.lt_of_lt_of_le (Heap.lt_size ho) (by rw [← e]; exact hle))
    · obtain ⟨_, o, ho, _⟩ := I2.ok.funs.mem hm
      exact Nat.lt_irrefl _ (Nat.lt_of_lt_of_le (Heap.lt_size ho) (Nat.le_trans I2.sz hle))
  have hs1 := hst (envF F f s.heap.objs.size)
  have hrun := hpa.run p3 _ s3 _ H _ I4 hq
  have hrun : wpAny (model P w) (A.deeper (envF F f s.heap.objs.size)) (spliced (backTo p3 (starEach [arg] (envF F f s.heap.objs.size)))) _ _ s3 := hrun
  rw [hs1] at hrun
  show wpAny (model P w) (A.deeper (envF F f s.heap.objs.size)) (callWith p3 (Value.ref q) [] (backTo p3 (starEach [arg] (envF F f s.heap.objs.size))) []) _ _ s3
  rw [hs1]
  refine PySem.W.kxs_callWith (i := "ValueError.__init__") (x := a) rfl (Calls.evalArgs_plain (thn hrun ?_))
  intro us4 s4 ⟨ws, H1, I5, r5, hw, ha5, ht⟩
  have hu5 := (I5.pin (q, PySem.W.kxs_mw "ValueError.__init__" a) (List.mem_append_right _ (by simp))).1
  have hlen : us4.length ≤ sizeLine := by
    rw [← Paired.length r5, sizeLine_eq]
    omega
  have I6 : Inv (ncx CX P w K mg base N F f A outer s H E) [] (startF N (.ref a :: vs') [none]) H1 s4 := I5.pins_of fun p hp => by simp at hp
  refine ⟨hu5, bw_call T I6 ha5 hu5 hlen fun s5 I7 => ?_⟩
  refine wpAt_of_wpAny (wpAny_mono (hps.run [] _ _ H1 _ I7 ht) (fun fl s' hs => ?_) fun e s' hs => hs)
  have fin : ∀ {σ' : L2.St} {H' : Hp} {v : V} {u : Value}, Inv (ncx CX P w K mg base N F f A outer s H E) [] σ' H' s' → L2.RelV v u → Q v H' → L2.CE outer P w H s Q u s' :=
    fun {σ' H' v u} J rv q => ⟨v, H', J.os, J.bare, J.base, J.hok, rv, q⟩
  cases fl with
  | ret u =>
    obtain ⟨v, σ', H', J, rv, q⟩ := hs
    exact fin J rv q
  | next =>
    obtain ⟨σ', H', J, q⟩ := hs
    exact fin (v := V.non) (u := Value.none) J rfl q
  | brk =>
    obtain ⟨_, _, _, q⟩ := hs
    exact False.elim q
  | cont =>
    obtain ⟨_, _, _, q⟩ := hs
    exact False.elim q
end
end BT
end

section
/-! BtInit2: def __init__(self, f, ..): super().__init__(f'..'); self.f = f; .. -/
namespace BT
open PySem PySem.Spec PyProof.Rows L2 NdefX
set_option autoImplicit false
/-- a part of the message -/
def ckJ (fs : List PySem.Str) : Expr → Bool
  | .Constant (.str s) _ _ => decide (s.length ≤ 10000)
  | .FormattedValue (.Name x _) i none _ => i == -1 && fs.contains x && !(x == ("__debug__" : PySem.Str)) && !(x == ("__classdict__" : PySem.Str))
  | _ => false
/-- what a field may hold -/
def fldV : V → Prop
  | .int i => i.natAbs.log2 < 1920
  | .str s => s.length ≤ 10000
  | _ => False
section
variable {X : Cx} {fs : List PySem.Str} {vs : List V} {σ : L2.St}
/-- the fields' slots -/
def FldAt (X : Cx) (fs : List PySem.Str) (vs : List V) (σ : L2.St) : Prop := fs.length = vs.length ∧ ∀ j f v, fs[j]? = some f → vs[j]? = some v → X.N[j + 1]? = some f ∧ X.env.scope.names.lookup f = some .local ∧ σ[j + 1]? = some (some v)
theorem str_len_app (a b : PySem.Str) : (a ++ b).length = a.length + b.length := by
  show (a.cps ++ b.cps).size = a.cps.size + b.cps.size
  exact Array.size_append
theorem fstr_ok (hN : ∀ j f, fs[j]? = some f → X.N[j + 1]? = some f ∧ X.env.scope.names.lookup f = some .local) : ∀ es : List Expr, es.all (ckJ fs) = true → ∃ ts, PJ X es ts ∧
    ∀ (σ : L2.St) (vs : List V) (acc : PySem.Str) (H : Hp) (Q : PySem.Str → Hp → Prop), FldAt X fs vs σ → (∀ v ∈ vs, fldV v) → acc.length + 10000 * es.length ≤ sizeLine → (∀ out, Q out H) → tJs ts acc σ H Q
  | [], _ => ⟨[], .nil, fun σ vs acc H Q _ _ _ h => h acc⟩
  | e :: es, h => by
    rw [List.all_cons, Bool.and_eq_true] at h
    obtain ⟨ts, pj, hq⟩ := fstr_ok hN es h.2
    have h1 := h.1
    unfold ckJ at h1
    split at h1
    · rename_i s j p
      have hs : s.length ≤ 10000 := of_decide_eq_true h1
      refine ⟨_, .cons pe_str pj, fun σ vs acc H Q hf hv hl k => ⟨s, rfl, ?_, hq σ vs _ H Q hf hv ?_ k⟩⟩
      · rw [str_len_app]
        simp only [List.length_cons] at hl
        omega
      · rw [str_len_app]
        simp only [List.length_cons] at hl
        omega
    · rename_i x p i q
      simp only [Bool.and_eq_true, beq_iff_eq, Bool.not_eq_true'] at h1
      obtain ⟨⟨⟨rfl, h2⟩, h3⟩, h4⟩ := h1
      have hm : x ∈ fs := by simpa using h2
      obtain ⟨j, hj⟩ := List.mem_iff_getElem?.mp hm
      obtain ⟨n1, n2⟩ := hN j x hj
      refine ⟨_, .cons (pe_fmt (pe_var (i := j + 1) n1 (.inl n2) h3 h4)) pj, fun σ vs acc H Q hf hv hl k => ?_⟩
      have hlt : j < vs.length := by rw [← hf.1]; exact (List.getElem?_eq_some_iff.mp hj).1
      obtain ⟨v, hv1⟩ : ∃ v, vs[j]? = some v := ⟨_, List.getElem?_eq_getElem hlt⟩
      have hs := (hf.2 j x v hj hv1).2.2
      have hw := hv v (List.mem_of_getElem? hv1)
      simp only [List.length_cons] at hl
      refine ⟨v, hs, ?_⟩
      cases v with
      | int n =>
        have hn : n.natAbs.log2 < 1920 := hw
        have hz : (PySem.Str.ofString (toString n)).length ≤ 10000 := by
          have e := int_text_length_le (k := 1920) (by decide) hn
          rw [PySem.ofString_length]; omega
        refine .inr ⟨n, rfl, hn, _, rfl, ?_, hq σ vs _ H Q hf hv ?_ k⟩
        · rw [str_len_app]; omega
        · rw [str_len_app]; omega
      | str s =>
        have hn : s.length ≤ 10000 := hw
        refine .inl ⟨s, rfl, Nat.le_trans hn (by rw [sizeLine_eq]; decide), _, rfl, ?_, hq σ vs _ H Q hf hv ?_ k⟩
        · rw [str_len_app]; omega
        · rw [str_len_app]; omega
      | non => exact hw.elim
      | bl b => exact hw.elim
      | ref a => exact hw.elim
      | ty t => exact hw.elim
      | _ => exact hw.elim
    · cases h1
/-- self.f = f, .. -/
def ckR : List PySem.Str → List Stmt → Bool
  | [], [] => true
  | f :: fs, .Assign [.Attribute (.Name x _) g _] (.Name y _) _ :: r => x == ("self" : PySem.Str) && g == f && y == f && !(f == ("__debug__" : PySem.Str)) && !(f == ("__classdict__" : PySem.Str)) && ckR fs r
  | _, _ => false
theorem upd_ne2 {H : Hp} {a b : Addr} {o : HO} (h : b ≠ a) : upd H a o b = H b := upd_ne h
variable {a C dx : Addr}
theorem self_pe {p : Pos} (h0 : X.N[0]? = some ("self" : PySem.Str)) (hl : X.env.scope.names.lookup ("self" : PySem.Str) = some .local) : PE X (.Name "self" p) (tVar 0) := pe_var h0 (.inl hl) (by decide) (by decide)
theorem inv_R {f : PySem.Str} {fs : List PySem.Str} {sts : List Stmt} (h : ckR (f :: fs) sts = true) : ∃ px pg py p r, sts = .Assign [.Attribute (.Name "self" px) f pg] (.Name f py) p :: r ∧ (f == ("__debug__" : PySem.Str)) = false ∧ (f == ("__classdict__" : PySem.Str)) = false ∧ ckR fs r = true := by
  unfold ckR at h
  split at h <;> first | (exact absurd h Bool.false_ne_true) | skip
  · rename_i he
    cases he
  · rename_i he
    cases he
    simp only [Bool.and_eq_true, beq_iff_eq, Bool.not_eq_true'] at h
    obtain ⟨⟨⟨⟨⟨rfl, rfl⟩, rfl⟩, h1⟩, h2⟩, h3⟩ := h
    exact ⟨_, _, _, _, _, rfl, h1, h2, h3⟩
theorem rest_ok (T : OexC X.K C) (h0 : X.N[0]? = some ("self" : PySem.Str)) (hl : X.env.scope.names.lookup ("self" : PySem.Str) = some .local) :
    ∀ (fs : List PySem.Str) (n : Nat) (sts : List Stmt), ckR fs sts = true → (∀ j f, fs[j]? = some f → X.N[n + j]? = some f ∧ X.env.scope.names.lookup f = some .local ∧ PySem.W.findIn X.K (.ref C) f = some none) →
    ∃ t, PSs X sts t ∧ ∀ (σ : L2.St) (H : Hp) (D : Ends) (us : List V) (done : List (PySem.Str × V)) (dx : Addr), fs.length = us.length → done.length + fs.length ≤ 900 → σ[0]? = some (some (.ref a)) → (∀ j v, us[j]? = some v → σ[n + j]? = some (some v)) →
      H a = some (exo a C (some dx)) → H dx = some (exd dx done) → dx ≠ a →
      (∀ H', H' a = some (exo a C (some dx)) → H' dx = some (exd dx ((fs.zip us).reverse ++ done)) → (∀ b, b ≠ a → b ≠ dx → H' b = H b) → D.nx σ H') → t D σ H
  | [], n, sts, h, _ => by
    cases sts with
    | nil => exact ⟨_, pss_nil, fun σ H D us done dx _ _ _ _ ha hd _ k => k H ha (by simpa using hd) fun _ _ _ => rfl⟩
    | cons _ _ => simp [ckR] at h
  | f :: fs, n, sts, h, hN => by
    obtain ⟨px, pg, py, p, r, rfl, hd1, hd2, hr⟩ := inv_R h
    obtain ⟨t, ht, kt⟩ := rest_ok T h0 hl fs (n + 1) r hr fun j g hj => by
      have := hN (j + 1) g (by simpa using hj)
      rw [show n + 1 + j = n + (j + 1) by omega]
      exact this
    obtain ⟨n1, n2, n3⟩ := hN 0 f rfl
    refine ⟨_, pss_cons (ps_ost (self_pe h0 hl) (pe_var (i := n) (by simpa using n1) (.inl n2) hd1 hd2)) ht, fun σ H D us done dx hlen hb h00 hv ha hd hne k => ?_⟩
    cases us with
    | nil => simp at hlen
    | cons u us =>
      simp only [List.length_cons] at hlen hb
      refine ⟨u, by simpa using hv 0 u rfl, .ref a, h00, a, C, rfl, T, n3, .inr ⟨dx, done, ha, hd, by omega, ?_⟩⟩
      refine kt σ _ D us ((f, u) :: done) dx (by omega) (by simp only [List.length_cons]; omega) h00 (fun j v hj => ?_) (by rw [upd_ne (Ne.symm hne)]; exact ha) upd_same hne fun H' h1 h2 h3 => ?_
      · have := hv (j + 1) v (by simpa using hj)
        rw [show n + 1 + j = n + (j + 1) by omega]
        exact this
      · refine k H' h1 ?_ fun b b1 b2 => (h3 b b1 b2).trans (upd_ne b2)
        rw [h2]
        simp [List.append_assoc]
/-- .. from the first one on -/
theorem rest1_ok (T : OexC X.K C) (h0 : X.N[0]? = some ("self" : PySem.Str)) (hl : X.env.scope.names.lookup ("self" : PySem.Str) = some .local) (fs : List PySem.Str) (sts : List Stmt) (hne : fs ≠ []) (h : ckR fs sts = true)
    (hN : ∀ j f, fs[j]? = some f → X.N[j + 1]? = some f ∧ X.env.scope.names.lookup f = some .local ∧ PySem.W.findIn X.K (.ref C) f = some none) :
    ∃ t, PSs X sts t ∧ ∀ (σ : L2.St) (H : Hp) (D : Ends) (us : List V), FldAt X fs us σ → fs.length ≤ 900 → σ[0]? = some (some (.ref a)) →
      H a = some (exo a C none) →
      (∀ H' dx, H dx = none → dx ≠ a → H' a = some (exo a C (some dx)) → H' dx = some (exd dx (fs.zip us).reverse) → (∀ b, b ≠ a → b ≠ dx → H' b = H b) → D.nx σ H') → t D σ H := by
  cases fs with
  | nil => exact absurd rfl hne
  | cons f fs =>
    obtain ⟨px, pg, py, p, r, rfl, hd1, hd2, hr⟩ := inv_R h
    obtain ⟨t, ht, kt⟩ := rest_ok (a := a) T h0 hl fs 2 r hr fun j g hj => by
      have := hN (j + 1) g (by simpa using hj)
      rw [show 2 + j = j + 1 + 1 by omega]
      exact this
    obtain ⟨n1, n2, n3⟩ := hN 0 f rfl
    refine ⟨_, pss_cons (ps_ost (self_pe h0 hl) (pe_var (i := 1) (by simpa using n1) (.inl n2) hd1 hd2)) ht, fun σ H D us hf hb h00 ha k => ?_⟩
    obtain ⟨hlen, hv⟩ := hf
    cases us with
    | nil => simp at hlen
    | cons u us =>
      simp only [List.length_cons] at hlen hb
      refine ⟨u, (hv 0 f u rfl rfl).2.2, .ref a, h00, a, C, rfl, T, n3, .inl ⟨ha, fun dx hdx hne => ?_⟩⟩
      refine kt σ _ D us [(f, u)] dx (by omega) (by simp only [List.length_cons, List.length_nil]; omega) h00 (fun j v hj => ?_) upd_same (by rw [upd_ne hne]; exact upd_same) hne fun H' h1 h2 h3 => ?_
      · have hj2 : j < fs.length := by rw [show fs.length = us.length by omega]; exact (List.getElem?_eq_some_iff.mp hj).1
        have := (hv (j + 1) fs[j] v (by simpa using List.getElem?_eq_getElem hj2) (by simpa using hj)).2.2
        rw [show 2 + j = j + 1 + 1 by omega]
        exact this
      · refine k H' dx hdx hne h1 ?_ fun b b1 b2 => (h3 b b1 b2).trans ((upd_ne b1).trans (upd_ne b2))
        rw [h2]
        simp
end
end BT
end

section
/-! BtInit3: what such an __init__ promises; the exception made. -/
namespace BT
open PySem PySem.Spec PyProof.Rows L2 NdefX
set_option autoImplicit false
/-- its promise -/
def spI (C : Addr) (fs : List PySem.Str) : Sp := fun vs H Q E => ∃ a us, vs = .ref a :: us ∧ fs.length = us.length ∧ (∀ v ∈ us, fldV v) ∧ H a = some (exo a C none) ∧
  ∀ H' dx, H dx = none → dx ≠ a → H' a = some (exo a C (some dx)) → H' dx = some (exd dx (fs.zip us).reverse) → (∀ b, b ≠ a → b ≠ dx → H' b = H b) → Q .non H'
/-- the text of an __init__: its first line's parts, the rest -/
def ckI (fs : List PySem.Str) : List Stmt → Bool
  | .Expr (.Call (.Attribute (.Call (.Name s _) [] [] _) m p2) [.JoinedStr (v1 :: v2 :: vr) _] [] p3) _ :: rest =>
      p2.endLine == p3.line && s == ("super" : PySem.Str) && m == ("__init__" : PySem.Str) && (v1 :: v2 :: vr).all (ckJ fs) && decide (vr.length ≤ 900) && ckR fs rest
  | _ => false
abbrev iniN (fs : List PySem.Str) : List PySem.Str := ("self" : PySem.Str) :: (fs ++ [("__class__" : PySem.Str)])
/-- what the text's top says of an exception's class with an own __init__ -/
structure XIni (P : Program) (K : PySem.W.Frag) (mg : PySem.Str → Option Value) (C : Addr) (fs : List PySem.Str) (fI : Addr) (fd : FuncData) : Prop where
  oex : OexC K C
  ne : fs ≠ []
  few : fs.length ≤ 900
  noat : ∀ f ∈ fs, PySem.W.findIn K (.ref C) f = some none
  ini : PySem.W.findIn K (.ref C) "__init__" = some (some (.ref fI))
  ty : PySem.W.typeIn K (.ref fI) = some (.type "function")
  bnd : Binds K fd (("self" : PySem.Str) :: fs) []
  fn : ∃ (F : NF) (cc : Addr) (oc : Value) (od an : Option Addr) (doc pm ctv : Value) (osl : Array (Option Value)), SupC P K mg F fI C cc C ∧ NScope (iniN fs) (("self" : PySem.Str) :: fs) [("__class__" : PySem.Str)] F.scope ∧
    fd = PySem.W.fnX F.name F.qual F.params F.body F.scope F.cl .none .none doc pm an (.ref F.c) ctv ∧ K.lookup fI = some ⟨oc, od, .func fd, osl⟩ ∧ PySem.W.codeIn K (.ref F.c) F.qual = true ∧ ckI fs F.body = true
theorem inv_I {fs : List PySem.Str} {body : List Stmt} (h : ckI fs body = true) : ∃ p0 p1 p2 p3 p4 pj v1 v2 vr rest, body = .Expr (.Call (.Attribute (.Call (.Name "super" p0) [] [] p1) "__init__" p2) [.JoinedStr (v1 :: v2 :: vr) pj] [] p3) p4 :: rest ∧
    (p2.endLine == p3.line) = true ∧ (v1 :: v2 :: vr).all (ckJ fs) = true ∧ vr.length ≤ 900 ∧ ckR fs rest = true := by
  unfold ckI at h
  split at h <;> first | (exact absurd h Bool.false_ne_true) | skip
  simp only [Bool.and_eq_true, beq_iff_eq, decide_eq_true_eq] at h
  obtain ⟨⟨⟨⟨⟨h0, rfl⟩, rfl⟩, h3⟩, h4⟩, h5⟩ := h
  exact ⟨_, _, _, _, _, _, _, _, _, _, rfl, by rw [h0]; exact beq_self_eq_true _, h3, h4, h5⟩
theorem mcall_eq {env : Env} {p0 p1 p2 p3 : Pos} {arg : Expr} (h : (p2.endLine == p3.line) = true) (hs : starEach [arg] env = [(false, eval arg env)]) : ∃ pl : Sem Bool, eval (.Call (.Attribute (.Call (.Name "super" p0) [] [] p1) "__init__" p2) [arg] [] p3) env = (do
      let ov ← attributeBase (.Call (.Name "super" p0) [] [] p1) "__init__" env (eval (.Call (.Name "super" p0) [] [] p1) env)
      standAt p2.atName
      let (f, first) ← holding [ov] (getMethod ov "__init__" pl)
      callWith p3 f first (backTo p3 (starEach [arg] env)) []) := by
  refine ⟨(do return (← importBound (.Call (.Name "super" p0) [] [] p1) env).getD true), ?_⟩
  show (do
      let ov ← attributeBase (.Call (.Name "super" p0) [] [] p1) "__init__" env (eval (.Call (.Name "super" p0) [] [] p1) env)
      standAt p2.atName
      methodCall (.Call (.Name "super" p0) [] [] p1) "__init__" p2 p3 env ov 1 (backTo p3 (starEach [arg] env)) []) = _
  rw [hs]
  have e : methodCallPos true (.Call (.Name "super" p0) [] [] p1) env p2 p3 = pure p3 := by
    unfold methodCallPos
    rw [h]
    rfl
  have f : methodCallForm 1 (backTo p3 [(false, eval arg env)]) [] = true := rfl
  simp only [methodCall, f, e, pure_bind, calleeOf, if_true]
section
variable {P : Program} {w : World} {K : PySem.W.Frag} {mg : PySem.Str → Option Value} {base : Heap} {C fI : Addr} {fs : List PySem.Str} {fd : FuncData} {CX : CXT}
theorem XIni.ok (h : XIni P K mg C fs fI fd) : FnOk P w K mg base CX 1 fI fd (("self" : PySem.Str) :: fs) (spI C fs) := by
  obtain ⟨F, cc, oc, od, an, doc, pm, ctv, osl, S, nS, rfl, lk, hcd, hck⟩ := h.fn
  obtain ⟨p0, p1, p2, p3, p4, pj, v1, v2, vr, rest, hb, c0, c1, c2, c3⟩ := inv_I hck
  have len : ∀ vs H Q E, spI C fs vs H Q E → vs.length = (("self" : PySem.Str) :: fs).length := fun vs H Q E ⟨a, us, e, hl, _⟩ => by rw [e]; simp [hl]
  refine init_fn (k := 0) S h.oex nS rfl lk hcd hb (fun env => rfl) (fun env => mcall_eq c0 rfl) len fun A outer s H vs Q E hr hsp => ?_
  obtain ⟨a, us, rfl, hl, hv, ha, hq⟩ := hsp
  have hN : ∀ j f, fs[j]? = some f → (iniN fs)[j + 1]? = some f ∧ F.scope.names.lookup f = some .local := fun j f e => by
    refine ⟨?_, nS.par f (List.mem_cons_of_mem _ (List.mem_of_getElem? e))⟩
    show (fs ++ _)[j]? = _
    rw [List.getElem?_append_left (List.getElem?_eq_some_iff.mp e).1]
    exact e
  obtain ⟨ts, pjs, hts⟩ := fstr_ok (X := ncx CX P w K mg base (iniN fs) F fI A outer s H E) hN (v1 :: v2 :: vr) c1
  obtain ⟨t, ht, kt⟩ := rest1_ok (a := a) (X := ncx CX P w K mg base (iniN fs) F fI A outer s H E) (C := C) h.oex rfl S.ka fs rest h.ne c3 fun j f e => ⟨(hN j f e).1, (hN j f e).2, h.noat f (List.mem_of_getElem? e)⟩
  have fa : FldAt (ncx CX P w K mg base (iniN fs) F fI A outer s H E) fs us (startF (iniN fs) (.ref a :: us) [none]) := by
    refine ⟨hl, fun j f v e1 e2 => ⟨(hN j f e1).1, (hN j f e1).2, ?_⟩⟩
    unfold startF
    rw [List.getElem?_append_left (by simp; exact (List.getElem?_eq_some_iff.mp e2).1)]
    simp [e2]
  refine ⟨a, us, _, t, rfl, ha, pa_cons (pe_joined pjs) pa_nil rfl, ht, ?_⟩
  refine hts _ us _ H _ fa hv ?_ fun out => ?_
  · simp only [List.length_cons, sizeLine_eq]
    show 0 + _ ≤ _
    omega
  · refine ⟨by simp, ha, kt _ H _ us fa h.few (by unfold startF; simp) ha fun H' dx h1 h2 h3 h4 h5 => hq H' dx h1 h2 h3 h4 h5⟩
end
/-- a class by what stands at its address -/
theorem XIni.of {P : Program} {K : PySem.W.Frag} {mg : PySem.Str → Option Value} {C fI cc cda : Addr} {fs : List PySem.Str} {qual nm q file : PySem.Str} {st : Stmt} {oc o2 o3 doc pm ct : Value} {od od2 od3 an dd : Option Addr} {osl s2 s3 : Array (Option Value)} {N : Addr} {bs bm sub : List Value} {sn : List PySem.Str} {ab : Bool} {col : Option Bool} {k0 k1 k2 k3 k5 : Option Value} {vs : Array Value} {tf : Tok}
    (lC : K.lookup C = some ⟨.type "type", dd, .cls ⟨nm, bs, .ref C :: bm, N, q, true, sn, sub, ab, col, false⟩, #[k0, k1, k2, k3, some (.builtin "ValueError.__new__"), k5]⟩) (hbm : PySem.HandSPX.refsVE bm = true)
    (sa : PySem.W.findIn K (.ref C) "__setattr__" = some (some (.builtin "object.__setattr__"))) (exC : PySem.W.subIn K (.ref C) (.type "BaseException") = some true) (tyC : PySem.W.typeIn K (.ref C) = some (.type "type")) (kC : PySem.W.keepIn K (.ref C) = true)
    (ne : fs ≠ []) (few : fs.length ≤ 900) (noat : ∀ f ∈ fs, PySem.W.findIn K (.ref C) f = some none) (ini : PySem.W.findIn K (.ref C) "__init__" = some (some (.ref fI))) (ty : PySem.W.typeIn K (.ref fI) = some (.type "function"))
    (bnd : ∀ us : List Value, us.length = (("self" : PySem.Str) :: fs).length → bindArgs (PySem.W.fnX "__init__" qual (defArgs st) (defBody st) (defScope st) [(("__class__" : PySem.Str), cc)] .none .none doc pm an (.ref cda) ct) ⟨us, []⟩ = pure ((("self" : PySem.Str) :: fs).zip us))
    (lI : K.lookup fI = some ⟨oc, od, .func (PySem.W.fnX "__init__" qual (defArgs st) (defBody st) (defScope st) [(("__class__" : PySem.Str), cc)] .none .none doc pm an (.ref cda) ct), osl⟩) (cI : PySem.W.codeIn K (.ref cda) qual = true)
    (lD : K.lookup cda = some ⟨o2, od2, .fields vs, s2⟩) (hvs : vs[2]? = some (.str file tf)) (hfile : ((P.main.file : PySem.Str) == file) = true) (lcc : K.lookup cc = some ⟨o3, od3, .cell (some (.ref C)), s3⟩) (hsub : PySem.W.mroIn K C (.ref C) = some true)
    (sup : mg "super" = none) (top : (P.main.scope.names.lookup ("super" : PySem.Str)).isSome = false) (opq : PySem.W.nsIn K cStatics "thirdparty.any" = some none) (sIn : PySem.W.ks_superIn K C C "__init__" = some (some (.builtin "ValueError.__init__"))) (vE : PySem.W.subIn K (.ref C) (.type "ValueError") = some true)
    (nsc : nscB (iniN fs) (("self" : PySem.Str) :: fs) [("__class__" : PySem.Str)] (defScope st) = true) (ar : (((defArgs st).posonlyargs ++ (defArgs st).args).head?.map (·.arg)) = some ("self" : PySem.Str)) (ks : (defScope st).names.lookup ("super" : PySem.Str) = some .globalImplicit) (ck : ckI fs (defBody st) = true) :
    XIni P K mg C fs fI (PySem.W.fnX "__init__" qual (defArgs st) (defBody st) (defScope st) [(("__class__" : PySem.Str), cc)] .none .none doc pm an (.ref cda) ct) := by
  have S := nscope_by nsc
  have hcd : ∃ cd, PySem.W.clsIn K C = some cd := by
    unfold PySem.W.clsIn
    rw [lC]
    exact ⟨_, rfl⟩
  obtain ⟨ar1, e1, e2⟩ := Option.map_eq_some_iff.mp ar
  refine ⟨⟨⟨nm, q, N, bs, bm, sn, sub, ab, col, dd, k0, k1, k2, k3, k5, lC, hbm⟩, sa, exC, tyC, kC⟩, ne, few, noat, ini, ty, .all bnd, ⟨"__init__", qual, defArgs st, defBody st, defScope st, [(("__class__" : PySem.Str), cc)], cda⟩, cc, oc, od, an, doc, pm, ct, osl, ?_, S, rfl, lI, cI, ck⟩
  exact ⟨⟨oc, od, doc, pm, an, ct, osl, lI⟩, rfl, ⟨ar1, e1, e2⟩, ⟨o2, od2, vs, s2, file, tf, lD, hvs, hfile⟩, ⟨o3, od3, s3, lcc⟩, hcd, hsub, sup, ks, S.frk _ (by simp), S.par _ (by simp), S.kind, top, opq, sIn, vE⟩
end BT
end

section
/-! BtExc: raise; try .. except; what the suite asks of the exception. -/
namespace BT
open PySem PySem.Spec L2
open PyProof.Rows hiding St
set_option autoImplicit false

section
variable {T T' : Tb} {b b' b1 : Bs} {σ : L2.St} {s s' s1 : S} {o : List Addr} {W : WX} {D : Ends}
theorem EvRs.scals : ∀ {xs : List EV} {vs : List V} {o : List Addr}, EvRs T b xs vs o → xs.all (fun e => okF e.d) = true → RpL T b.ρ b.Φ (xs.map EV.d) vs ∧ (∀ v ∈ vs, fldV v) ∧ xs.length = vs.length
  | _, _, _, .nil, _ => ⟨.nil, fun v m => by simp at m, rfl⟩
  | _, _, _, .cons (e := e) h l, q => by
    rw [List.all_cons, Bool.and_eq_true] at q
    obtain ⟨l1, l2, l3⟩ := EvRs.scals l q.2
    have sc : scal e.d = true := by
      have := q.1
      cases hd : e.d <;> rw [hd] at this <;> first | rfl | (simp [okF] at this)
    obtain ⟨_, r⟩ := h.scal sc
    refine ⟨.cons r l1, fun v m => ?_, by simp [l3]⟩
    rcases List.mem_cons.mp m with rfl | m
    · have := q.1
      cases hd : e.d <;> rw [hd] at this <;> try (simp [okF] at this; done)
      · rw [hd] at r
        cases r
        simpa [okF, fldV] using this
      · rw [hd] at r
        cases r
        simpa [okF, fldV, sv, PySem.Str.length] using this
    · exact l2 v m
theorem RpL.scals {ρ : List Addr} {Φ Φ2 : Hp} : ∀ {ds : List BT.D} {vs : List V}, RpL T ρ Φ ds vs → ds.all BT.scal = true → RpL T ρ Φ2 ds vs
  | _, _, .nil, _ => .nil
  | _, _, .cons h l, q => by
    rw [List.all_cons, Bool.and_eq_true] at q
    exact .cons (h.scal q.1) (RpL.scals l q.2)
end
/-- raise C(e, ..) -/
theorem ss_rai {T : Tb} {C : CF} {Wf : Nat} {W : WX} {X : Cx} {c k : Nat} {x : PySem.Str} {Cc fI : Addr} {fd : FuncData} {fs : List PySem.Str} {e : Expr} {es : List Expr} {cs : CEs} {p pos pos2 : Pos}
    (hc : X.calm = true) (tk : Takes X W) (hT : T.exc c = some (.ref Cc, fs)) (nd : fs.Nodup) (I : XIni X.prog X.K X.mg Cc fs fI fd) (hr : Room 2 X.A) (hg : Gl X x) (hm : X.mg x = some (.ref Cc)) (ha : PA X (e :: es) (tEs T C W cs))
    (hd : (x == ("__debug__" : PySem.Str)) = false) (hs : starEach (e :: es) X.env = (false, eval e X.env) :: starEach es X.env) (hp : (backTo pos (starEach es X.env)).any (·.1) = false) :
    PS X (.Raise (some (.Call (.Name x p) (e :: es) [] pos)) none pos2) (tS T C Wf W (.rai c fs.length cs)) := by
  refine PS.weak (ps_raise hc tk (pmk_oex (CX := L2.CX X.prog X.w) I.oex I.ini I.ty (I.ok (CX := L2.CX X.prog X.w) (w := X.w) (base := X.base)) hr I.bnd .nil (fun _ _ _ _ _ _ _ h => by
    obtain ⟨_, _, _, _, _, _, _, _, _, _, _, _, z⟩ := h
    exact z.elim) hg hm ha hd hs hp)) fun D σ H ⟨b, s, eH, A, h⟩ => ?_
  subst eH
  unfold evalS at h
  refine ⟨b, s, rfl, A, (PostS.seq A (Go.refl b) h).mono fun vs H1 ⟨xs, s1, b1, o1, e1, g1, A1, E1, h1⟩ => ?_⟩
  subst e1
  by_cases hok : (xs.all (fun e => okF e.d) && decide (xs.length = fs.length)) = true
  · rw [if_pos hok] at h1
    simp only [Bool.and_eq_true, decide_eq_true_eq] at hok
    obtain ⟨r1, r2, r3⟩ := EvRs.scals E1 hok.1
    have hsc : (xs.map EV.d).all scal = true := by
      rw [List.all_map]
      refine List.all_eq_true.mpr fun ev m => ?_
      have := List.all_eq_true.mp hok.1 ev m
      show scal ev.d = true
      cases hd : ev.d <;> rw [hd] at this <;> first | rfl | (simp [okF] at this)
    have hl : fs.length = vs.length := by omega
    have hf := I.few
    refine ⟨by omega, fun a ha => ?_⟩
    refine ⟨a, vs ++ [], rfl, by simpa using hl, by simpa using r2, upd_same, fun H' dx hdx hne h1' h2' h3' => ?_⟩
    have hdx1 : b1.H dx = none := by rw [upd_ne hne] at hdx; exact hdx
    refine ⟨rfl, dx, _, h1', h2', hdx1, ?_⟩
    have eH : upd (del H' a) dx (.xd (fs.zip (vs ++ [])).reverse) = upd b1.H dx (.xd (fs.zip vs).reverse) := by
      funext z
      by_cases z1 : z = dx
      · subst z1
        rw [upd_same, upd_same, List.append_nil]
      · rw [upd_ne z1, upd_ne z1]
        by_cases z2 : z = a
        · subst z2
          rw [del_same, ha]
        · rw [del_ne z2, h3' z z2 z1, upd_ne z2]
    rw [eH]
    have hS : Same b1.H (upd b1.H dx (.xd (fs.zip vs).reverse)) := fun z u q => by
      rw [upd_ne (ne_of_none q hdx1)]
      exact q
    have A2 := (At.drop g1 A1).grows hS
    refine h1 σ (.ref Cc) (some dx) ((b1.out b.OX).heap (upd b1.H dx (.xd (fs.zip vs).reverse))) ((g1.drop.grows hS).toS A) A2 ?_
    refine .mk hT hl nd (.inr ⟨dx, rfl, ?_⟩) (RpL.scals r1 hsc)
    show hid _ _ dx = _
    rw [hid_at]
    · exact upd_same
    · intro q
      obtain ⟨u, hu, _⟩ := (At.drop g1 A1).ownH dx q
      have hu : b1.H dx = some u := hu
      rw [hdx1] at hu
      cases hu
  · rw [if_neg hok] at h1; exact h1.elim

/-! ### except -/
section
variable {T T' : Tb} {b b' b1 b2 : Bs} {σ : L2.St} {s s' s1 : S} {o : List Addr} {W : WX} {D : Ends}
theorem At.conv (A : At T b s σ) (e : T.Le T') (h : T.xo = none ∨ s.noX = true) : At T' b s σ :=
  ⟨A.same, A.there, A.nt, A.env.conv e (h.imp id fun q => by unfold S.noX at q; simp only [Bool.and_eq_true] at q; exact q.1), A.sto.conv e (h.imp id fun q => by unfold S.noX at q; simp only [Bool.and_eq_true] at q; exact q.2), A.nd, A.new, A.snew, A.ox, A.oxH⟩
/-- fewer own -/
theorem less_go {own : List Addr} (h : ∀ a ∈ own, a ∈ b.own) : GoS b { b with own := own } [] :=
  ⟨List.prefix_refl _, rfl, rfl, hid_less fun a z => z.imp id fun z => (List.mem_append.mp z).elim (fun q => List.mem_append_left _ (h a q)) fun q => List.mem_append_right _ q, List.nodup_nil, fun _ m => by simp at m, fun _ m => by simp at m, fun a => by simp⟩
theorem At.unslot (A : At T b s σ) (i : Nat) : ∃ b4, b4.H = b.H ∧ GoS b b4 [] ∧ At T b4 { s with env := s.env.set i none } (σ.set i none) := by
  rcases e : s.env[i]? with _ | _ | ⟨k, d⟩
  · have hl : s.env.length ≤ i := by
      rw [List.getElem?_eq_none_iff] at e
      exact e
    refine ⟨b, rfl, GoS.refl b, ?_⟩
    rw [List.set_eq_of_length_le hl, List.set_eq_of_length_le (by rw [← A.env.len]; exact hl)]
    exact A
  · refine ⟨b, rfl, GoS.refl b, ?_⟩
    rw [getElem?_set_same e]
    exact ⟨A.same, A.there, A.nt, A.env.empty e, A.sto, A.nd, A.new, A.snew, A.ox, A.oxH⟩
  · obtain ⟨v, p, m, q, e1, e2, e3, e4, e5⟩ := A.slot e
    have R := e5 b.OX fun a h => .inl h
    have hl : i < s.env.length := (List.getElem?_eq_some_iff.mp e).1
    refine ⟨{ b with own := p ++ q }, rfl, less_go fun a h => by rw [e1]; simp at h ⊢; rcases h with h | h <;> simp [h], ?_⟩
    exact ⟨R.same, R.there, R.nt, R.env.empty (by simp [hl]), R.sto, R.nd, R.new, R.snew, R.ox, R.oxH⟩
theorem GoS.less {own : List Addr} (g : GoS b b' o) (h : ∀ a ∈ own, a ∈ b'.own) : GoS b { b' with own := own } o :=
  ⟨g.pre, g.h0, g.so, g.phi.trans (less_go h).phi, g.nd, g.no, g.new, g.ox⟩
theorem At.clear (A : At T b s σ) (e : T.Le T') (h : T.xo = none ∨ noXS s.sto = true) : At T' { b with own := [] } { env := s.env.map fun _ => none, sto := s.sto } σ := by
  have m : Same b.Φ { b with own := [] : Bs }.Φ := (less_go (b := b) (own := []) fun a q => by simp at q).phi
  have nd := A.nd
  rw [List.nodup_append] at nd
  refine ⟨A.same, A.there, A.nt, RpE.clear A.env, (A.sto.mono m (List.prefix_refl _) fun _ _ _ q => q).conv e h, nd.2.1, fun a q => by simp at q, A.snew, fun a q => A.ox a (List.mem_append_right _ (by simpa using q)), A.oxH⟩
theorem outX_ok {i : Nat} {fl : Fl} (h : PostS T b (fl.outX (some i)) D W) (g : GoS b b2 []) (e : T'.Le T) :
    PostS T' b2 fl { nx := fun σ' H' => D.nx (σ'.set i none) H', rt := D.rt, bk := fun σ' H' => D.bk (σ'.set i none) H', ct := fun σ' H' => D.ct (σ'.set i none) H' } (fun _ _ _ _ => False) := by
  have key : ∀ {s3 : S} {σ3 : L2.St} {b3 : Bs} {Q : L2.St → Hp → Prop}, (s3.outX (some i)).noX = true → GoS b2 b3 [] → At T' b3 s3 σ3 → (∀ σ' b', GoS b b' [] → At T b' (s3.outX (some i)) σ' → Q σ' b'.H) → Q (σ3.set i none) b3.H := fun {s3 σ3 b3 Q} hn g3 A3 k => by
    obtain ⟨b4, e4, g4, A4⟩ := A3.unslot i
    rw [← e4]
    exact k _ b4 (g.trans (g3.trans g4)) (A4.conv e (.inr hn))
  cases fl with
  | next s3 =>
    simp only [Fl.outX] at h
    by_cases hn : (s3.outX (some i)).noX = true
    · rw [if_pos hn] at h
      exact fun σ3 b3 g3 A3 => key hn g3 A3 h
    · rw [if_neg hn] at h; exact h.elim
  | brk s3 =>
    simp only [Fl.outX] at h
    by_cases hn : (s3.outX (some i)).noX = true
    · rw [if_pos hn] at h
      exact fun σ3 b3 g3 A3 => key hn g3 A3 h
    · rw [if_neg hn] at h; exact h.elim
  | cont s3 =>
    simp only [Fl.outX] at h
    by_cases hn : (s3.outX (some i)).noX = true
    · rw [if_pos hn] at h
      exact fun σ3 b3 g3 A3 => key hn g3 A3 h
    · rw [if_neg hn] at h; exact h.elim
  | ret k d sto =>
    simp only [Fl.outX] at h
    by_cases hn : (BT.noX d && noXS sto) = true
    · rw [if_pos hn] at h
      simp only [Bool.and_eq_true] at hn
      intro v σ' b' o s' es g' A r
      subst es
      have g2 := (g.trans g').less (own := []) fun a q => by simp at q
      refine h v σ' { b' with own := [] } o ⟨s'.env.map fun _ => none, s'.sto⟩ rfl g2 (A.clear e (.inr hn.2)) ?_
      exact (r.mono (less_go (b := b') (own := []) fun a q => by simp at q).phi (List.prefix_refl _) fun _ _ _ q => q).conv e (.inr hn.1)
    · rw [if_neg hn] at h; exact h.elim
  | exc x s3 => exact h.elim
  | err => exact h.elim
end
/-- try: .. except C as n: .. -/
theorem ss_tri {T : Tb} {C : CF} {Wf : Nat} {W : WX} {X : Cx} {i : Nat} {x n : PySem.Str} {C2 : Addr} {cs : List Nat} {cb cu : CSs} {body suite : List Stmt} {b₀ : Stmt} {np pos pos' : Pos}
    (hs : X.stack = X.env :: X.outer) (hf : X.env.frame = some X.env.locals) (hN : X.N.Nodup) (hi : X.N[i]? = some n) (hln : X.env.kindOf n = some .local) (hc : Names X x (.ref C2)) (tk : Takes X W) (hxo : T.xo = none)
    (hb : ∀ (W' : WX) (pn : List (Addr × Obj)) (xe : Value → Shared → Prop), Takes (X.tr pn xe) W' → PassesOwn (model X.prog X.w) X.A X.env xe → PSs (X.tr pn xe) body (tSs T C Wf W' cb))
    (hu : ∀ (a : Addr) (oe : Obj) (cls : Value) (d : Option Addr) (pn : List (Addr × Obj)), Zc cls d oe → (∃ vs, oe.data = .fields vs) → PSs (X.suite a ((a, oe) :: pn)) (b₀ :: suite) (tSs (T.wx (some (a, cls, d))) noC Wf (fun _ _ _ _ => False) cu))
    (hcs : ∀ c p, T.exc c = some p → PySem.W.exmOne X.K p.1 (.ref C2) = some (cs.contains c)) :
    PS X (.Try body [.ExceptHandler (some (.Name x np)) (some n) (b₀ :: suite) pos'] [] [] pos) (tS T C Wf W (.tri cb cs (some i) cu)) := by
  refine PS.weak (ps_try_as hs hf hN hi hln hc tk hb hu) fun D σ H ⟨b, s, eH, A, h⟩ => ?_
  subst eH
  unfold evalS at h
  refine ⟨b, s, rfl, A, ?_⟩
  cases hfl : evalSs C Wf cb s with
  | next s' => rw [hfl] at h; exact h
  | brk s' => rw [hfl] at h; exact h
  | cont s' => rw [hfl] at h; exact h
  | ret k d sto => rw [hfl] at h; exact h
  | err => rw [hfl] at h; exact h
  | exc xx s1 =>
    rw [hfl] at h
    intro σ' cls d b' g A' r
    have r0 := r
    cases r with
    | @mk c _ _ ns fs vs h1 h2 h3 h4 h5 =>
      refine ⟨cs.contains c, hcs c _ h1, fun ht a ha => ?_, fun hf => ?_⟩
      · simp only [ht, if_true] at h
        by_cases hl : i < s1.env.length
        · simp only [hl, if_true] at h
          have le : T.Le (T.wx (some (a, cls, d))) := Tb.Le.wx _ _
          have A1 : At (T.wx (some (a, cls, d))) b' s1 σ' := A'.conv le (.inl hxo)
          have rx : Rp (T.wx (some (a, cls, d))) b'.ρ b'.Φ (.exn c fs) (.ref a) := .exn rfl h1 h2 h3 h4 (h5.conv le (.inl hxo))
          obtain ⟨b2, e2, g2, A2⟩ := Go.put A1 (Go.refl b') A1 hl (k := 0) (.frz rx)
          exact ⟨b2, _, e2, A2, outX_ok h (g.trans g2) le.symm⟩
        · simp only [hl] at h; exact h.elim
      · simp only [hf] at h
        exact h σ' cls d b' g A' r0
/-- try: .. except C: .. -/
theorem ss_tri0 {T : Tb} {C : CF} {Wf : Nat} {W : WX} {X : Cx} {x : PySem.Str} {C2 : Addr} {cs : List Nat} {cb cu : CSs} {body suite : List Stmt} {b₀ : Stmt} {np pos pos' : Pos}
    (hs : X.stack = X.env :: X.outer) (hf : X.env.frame = some X.env.locals) (hc : Names X x (.ref C2)) (tk : Takes X W)
    (hb : ∀ (W' : WX) (pn : List (Addr × Obj)) (xe : Value → Shared → Prop), Takes (X.tr pn xe) W' → PassesOwn (model X.prog X.w) X.A X.env xe → PSs (X.tr pn xe) body (tSs T C Wf W' cb))
    (hu : ∀ (a : Addr) (oe : Obj) (cls : Value) (d : Option Addr) (pn : List (Addr × Obj)), Zc cls d oe → (∃ vs, oe.data = .fields vs) → PSs (X.suite a ((a, oe) :: pn)) (b₀ :: suite) (tSs T noC Wf (fun _ _ _ _ => False) cu))
    (hcs : ∀ c p, T.exc c = some p → PySem.W.exmOne X.K p.1 (.ref C2) = some (cs.contains c)) :
    PS X (.Try body [.ExceptHandler (some (.Name x np)) none (b₀ :: suite) pos'] [] [] pos) (tS T C Wf W (.tri cb cs none cu)) := by
  refine PS.weak (ps_try_only hs hf hc tk hb hu) fun D σ H ⟨b, s, eH, A, h⟩ => ?_
  subst eH
  unfold evalS at h
  refine ⟨b, s, rfl, A, ?_⟩
  cases hfl : evalSs C Wf cb s with
  | next s' => rw [hfl] at h; exact h
  | brk s' => rw [hfl] at h; exact h
  | cont s' => rw [hfl] at h; exact h
  | ret k d sto => rw [hfl] at h; exact h
  | err => rw [hfl] at h; exact h
  | exc xx s1 =>
    rw [hfl] at h
    intro σ' cls d b' g A' r
    have r0 := r
    cases r with
    | @mk c _ _ ns fs vs h1 h2 h3 h4 h5 =>
      refine ⟨cs.contains c, hcs c _ h1, fun ht a ha => ?_, fun hf => ?_⟩
      · simp only [ht, if_true] at h
        refine ⟨b', s1, rfl, A', ?_⟩
        have h := PostS.shift h g
        cases hf2 : evalSs noC Wf cu s1 with
        | next s' => rw [hf2] at h; exact h
        | brk s' => rw [hf2] at h; exact h
        | cont s' => rw [hf2] at h; exact h
        | ret k d sto => rw [hf2] at h; exact h
        | err => rw [hf2] at h; exact h
        | exc x2 s2 => rw [hf2] at h; exact h.elim
      · simp only [hf] at h
        exact h σ' cls d b' g A' r0

/-! ### what a suite asks of its exception -/
/-- a class of exceptions: what its instances' attributes ask -/
structure XCls (K : PySem.W.Frag) (D : Addr) : Prop where
  xf : XfC K D
  ca : PySem.W.findIn K (.ref D) "__class__" = some (some (.builtin "object.__class__"))
  cn : PySem.W.specialIn K (.builtin "object.__class__") "__get__" = some (some (.builtin "getset_descriptor.__get__"))
  ct : PySem.W.takesIn K (.builtin "object.__class__") = some true
  cm : PySem.W.mroIn K D (.type "object") = some true
  ty : PySem.W.typeIn K (.ref D) = some (.type "type")
theorem isSome_any {α : Type} {o : Option α} {p : α → Bool} (h : o.any p = true) : o.isSome = true := by
  cases o with
  | none => cases h
  | some a => rfl
theorem XCls.cl {K : PySem.W.Frag} {D : Addr} (h : XCls K D) : (PySem.W.clsIn K D).isSome = true := isSome_any h.xf.hdC
theorem XCls.exm {K : PySem.W.Frag} {D : Addr} {cls : Value} {b : Bool} (h : XCls K D) (hs : PySem.W.subIn K cls (.ref D) = some b) : PySem.W.exmOne K cls (.ref D) = some b := PySem.W.exm_ref h.xf.exC h.xf.hdC h.ty hs
theorem XCls.kit {K : PySem.W.Frag} {D D1 : Addr} {b : Bool} (h : XCls K D) (hs : PySem.W.subIn K (.ref D1) (.ref D) = some b) (hr : PySem.W.subIn K (.ref D) (.ref D) = some true) : PySem.W.kitOne K (.ref D1) (.ref D) = some b := by
  unfold PySem.W.kitOne
  by_cases e : D1 = D
  · subst e
    rw [hs] at hr
    cases hr
    simp
  · have e2 : (Value.ref D1 == Value.ref D) = false := by simpa using e
    rw [e2]
    unfold PySem.W.kitCls
    rw [if_neg Bool.false_ne_true]
    show (if ((PySem.W.clsIn K D).isSome && PySem.W.typeIn K (.ref D) == some (.type "type")) = true then _ else _) = _
    rw [h.cl, h.ty, if_pos (by rfl)]
    exact hs
theorem RpK.exn {T : Tb} {ρ : List Addr} {Φ H : Hp} {k c : Nat} {fs : List BT.D} {v : V} {o : List Addr} (h : RpK T ρ Φ H k (.exn c fs) v o) : Rp T ρ Φ (.exn c fs) v := by
  cases h with
  | sc s _ => cases s
  | frz r => exact r
section
variable {T : Tb} {C : CF} {W : WX} {X : Cx} {a D : Addr} {oe : Obj} {cls : Value} {d : Option Addr} {pn : List (Addr × Obj)} {i : Nat} {x f : PySem.Str} {p pos : Pos}
/-- the slot with the exception -/
theorem At.exn {b : Bs} {s : S} {σ : L2.St} {k c : Nat} {fs : List BT.D} (A : At T b s σ) (e : s.env[i]? = some (some (k, .exn c fs))) (hxo : T.xo = some (a, cls, d)) :
    ∃ ns vs, σ[i]? = some (some (.ref a)) ∧ T.exc c = some (cls, ns) ∧ ns.length = vs.length ∧ ns.Nodup ∧ (ns = [] ∧ d = none ∨ ∃ dd, d = some dd ∧ b.H dd = some (.xd (ns.zip vs).reverse)) ∧ RpL T b.ρ b.Φ fs vs := by
  obtain ⟨v, _, _, _, _, h2, h3, _, _⟩ := A.slot e
  have r := h3.exn
  cases r with
  | exn h1 h2' h3' h4 h5 l =>
    rw [hxo] at h1
    cases h1
    exact ⟨_, _, h2, h2', h3', h4, h5.imp id fun ⟨dd, q1, q2⟩ => ⟨dd, q1, b.le _ _ q2⟩, l⟩
theorem snd_xf {tab : List (Nat × Nat)} (hK : X.K = T.K) (hz : Zc cls d oe) (hf : ∃ vs, oe.data = .fields vs) (hxo : T.xo = some (a, cls, d))
    (hx : ∀ c cls ns, T.exc c = some (cls, ns) → ∃ C, cls = .ref C ∧ XCls X.K C ∧ ∀ f ∈ ns, PySem.W.findIn X.K (.ref C) f = some none)
    (ht : ∀ c j, tab.lookup c = some j → ∀ p, T.exc c = some p → p.2[j]? = some f) (hv : PE (X.suite a ((a, oe) :: pn)) (.Name x p) (tVar i)) :
    PE (X.suite a ((a, oe) :: pn)) (.Attribute (.Name x p) f pos) (tE T C W (.xf i tab)) := by
  have inv : ∀ (σ : L2.St) (H : Hp) (Q : VK), tE T C W (.xf i tab) σ H Q → ∃ (b : Bs) (s : S) (k c : Nat) (fs : List BT.D) (ns : List PySem.Str) (vs : List V) (j : Nat) (dj : BT.D), b.H = H ∧ At T b s σ ∧ s.env[i]? = some (some (k, .exn c fs)) ∧ σ[i]? = some (some (.ref a)) ∧ T.exc c = some (cls, ns) ∧ ns.length = vs.length ∧ ns.Nodup ∧
      (ns = [] ∧ d = none ∨ ∃ dd, d = some dd ∧ b.H dd = some (.xd (ns.zip vs).reverse)) ∧ RpL T b.ρ b.Φ fs vs ∧ ns[j]? = some f ∧ fs[j]? = some dj ∧ scal dj = true ∧ Post T b σ (EvR T) (.ok (.own 0 dj) s) Q W := by
    rintro σ H Q ⟨b, s, eH, A, h⟩
    unfold evalE at h
    rcases e : s.env[i]? with _ | _ | ⟨k, d0⟩
    · rw [e] at h; exact h.elim
    · rw [e] at h; exact h.elim
    · rw [e] at h
      cases d0 with
      | exn c fs =>
        dsimp only at h
        obtain ⟨ns, vs, h1, h2, h3, h4, h5, h6⟩ := A.exn e hxo
        cases hl : tab.lookup c with
        | none => rw [hl] at h; exact h.elim
        | some j =>
          rw [hl] at h
          dsimp only at h
          cases hj : fs[j]? with
          | none => rw [hj] at h; exact h.elim
          | some dj =>
            rw [hj] at h
            dsimp only at h
            by_cases hs : scal dj = true
            · rw [if_pos hs] at h
              exact ⟨b, s, k, c, fs, ns, vs, j, dj, eH, A, e, h1, h2, h3, h4, h5, h6, ht c j hl _ h2, hj, hs, h⟩
            · rw [if_neg hs] at h; exact h.elim
      | _ => exact h.elim
  by_cases hc : ∃ c ns, T.exc c = some (cls, ns) ∧ f ∈ ns
  · obtain ⟨c0, ns0, e0, m0⟩ := hc
    obtain ⟨Cc, rfl, xc, na⟩ := hx c0 cls ns0 e0
    refine PE.weak (pe_xf xc.xf (na f m0) hz hf hv) fun σ H Q h => ?_
    obtain ⟨b, s, k, c, fs, ns, vs, j, dj, eH, A, e, h1, h2, h3, h4, h5, h6, h7, h8, h9, q⟩ := inv σ H Q h
    subst eH
    refine ⟨_, h1, rfl, rfl, ?_⟩
    rcases h5 with ⟨rfl, _⟩ | ⟨dd, rfl, hd⟩
    · simp at h7
    · obtain ⟨v, hv1, hv2⟩ := h6.get h8
      refine ⟨dd, _, v, rfl, hd, ?_, ?_⟩
      · have : ∀ {ps : List PySem.Str} {us : List V} {i : Nat} {x : PySem.Str} {u : V}, ps.Nodup → ps[i]? = some x → us[i]? = some u → (ps.zip us).reverse.lookup x = some u := by
          intro ps
          induction ps with
          | nil => intro us i x u _ h; simp at h
          | cons q ps ih =>
            intro us i x u nd h1 h2
            cases us with
            | nil => simp at h2
            | cons w us =>
              rw [List.zip_cons_cons, List.reverse_cons, List.lookup_append]
              cases i with
              | zero =>
                simp at h1 h2
                subst h1; subst h2
                have hn : (ps.zip us).reverse.lookup q = none := by
                  cases e : (ps.zip us).reverse.lookup q with
                  | none => rfl
                  | some v =>
                    have m := PySem.mem_of_lookup e
                    exact absurd (List.of_mem_zip (List.mem_reverse.mp m)).1 (List.nodup_cons.mp nd).1
                rw [hn]
                simp [List.lookup]
              | succ i =>
                rw [ih (List.nodup_cons.mp nd).2 (by simpa using h1) (by simpa using h2)]
                rfl
        exact this h4 h7 hv1
      · exact q.fin0 (Go.refl b) A h9 hv2
  · exact ⟨fun pins s1 σ H Q I h => by
      obtain ⟨b, s, k, c, fs, ns, vs, j, dj, eH, A, e, h1, h2, h3, h4, h5, h6, h7, h8, h9, q⟩ := inv σ H Q h
      exact absurd ⟨c, ns, h2, List.mem_of_getElem? h7⟩ hc⟩
/-- isinstance(e, C2) -/
def rIsX (K : PySem.W.Frag) (cls : Value) (d : Option Addr) (a C2 : Addr) : List V → Hp → VK → Prop := fun xs H Q => ∃ b, xs = [.ref a, .ref C2] ∧ PySem.W.kitOne K cls (.ref C2) = some b ∧ (d = none ∨ ∃ dd fs, d = some dd ∧ H dd = some (.xd fs)) ∧ Q (.bl b) H
theorem call_isX {C2 : Addr} (C : XCls X.K D) (hz : Zc (.ref D) d oe) (hf : ∃ vs, oe.data = .fields vs) : CallR (X.suite a ((a, oe) :: pn)) (.builtin "isinstance") (rIsX X.K (.ref D) d a C2) := by
  intro pins s σ H xs us Q I r h
  obtain ⟨b, rfl, e, hd, q⟩ := h
  cases r with
  | cons rx rr =>
    cases rr with
    | cons rt rr =>
      cases rr
      cases rx
      cases rt
      obtain ⟨hget, _⟩ := I.pin (a, oe) (List.mem_append.mpr (.inl List.mem_cons_self))
      obtain ⟨vs, hv⟩ := hf
      have J : ∃ od, PySem.W.InstAt s.heap a oe D od := by
        obtain ⟨oc, oda, odt, osl⟩ := oe
        obtain ⟨h1, h2⟩ := hz
        dsimp only at h1 h2 hv
        subst h1 h2 hv
        rcases hd with rfl | ⟨dd, fs, rfl, hd⟩
        · exact ⟨none, hget, rfl, rfl, trivial⟩
        · have hx : ObjOk X.prog X.w H s.heap dd (.xd fs) := I.hok dd _ hd
          obtain ⟨mA, hns, hr⟩ := hx
          obtain ⟨od, ho, hl⟩ := lookIn_ns hns
          exact ⟨some od, hget, rfl, rfl, ho⟩
      obtain ⟨od, J⟩ := J
      exact PySem.W.kia_one (PySem.W.kitx_exc C.cl C.xf.ga C.xf.gg C.xf.exC C.ca C.cn C.ct C.cm) I.kIn J e (fun z => nomatch z) fun tk => ⟨.bl b, H, I.kept (t' := tk) fun _ _ z => z, rfl, q⟩
theorem snd_xis {cs : List Nat} {y : PySem.Str} {C2 : Addr} {p1 p2 : Pos} (hz : Zc cls d oe) (hf : ∃ vs, oe.data = .fields vs) (hxo : T.xo = some (a, cls, d))
    (hx : ∀ c cls ns, T.exc c = some (cls, ns) → ∃ C, cls = .ref C ∧ XCls X.K C ∧ PySem.W.kitOne X.K cls (.ref C2) = some (cs.contains c))
    (hg : Gl X "isinstance") (hm : X.mg "isinstance" = none) (hy : Gl X y) (my : X.mg y = some (.ref C2)) (yd : (y == ("__debug__" : PySem.Str)) = false) (hv : PE (X.suite a ((a, oe) :: pn)) (.Name x p) (tVar i)) :
    PE (X.suite a ((a, oe) :: pn)) (.Call (.Name "isinstance" p1) [.Name x p, .Name y p2] [] pos) (tE T C W (.xis i cs)) := by
  have inv : ∀ (σ : L2.St) (H : Hp) (Q : VK), tE T C W (.xis i cs) σ H Q → ∃ (b : Bs) (s : S) (k c : Nat) (fs : List BT.D) (ns : List PySem.Str) (vs : List V), b.H = H ∧ At T b s σ ∧ s.env[i]? = some (some (k, .exn c fs)) ∧ σ[i]? = some (some (.ref a)) ∧ T.exc c = some (cls, ns) ∧ 
      (ns = [] ∧ d = none ∨ ∃ dd, d = some dd ∧ b.H dd = some (.xd (ns.zip vs).reverse)) ∧ Post T b σ (EvR T) (.ok (.own 0 (.bl (cs.contains c))) s) Q W := by
    rintro σ H Q ⟨b, s, eH, A, h⟩
    unfold evalE at h
    rcases e : s.env[i]? with _ | _ | ⟨k, d0⟩
    · rw [e] at h; exact h.elim
    · rw [e] at h; exact h.elim
    · rw [e] at h
      cases d0 with
      | exn c fs =>
        obtain ⟨ns, vs, h1, h2, h3, h4, h5, h6⟩ := A.exn e hxo
        exact ⟨b, s, k, c, fs, ns, vs, eH, A, e, h1, h2, h5, h⟩
      | _ => exact h.elim
  by_cases hc : ∃ c ns, T.exc c = some (cls, ns)
  · obtain ⟨c0, ns0, e0⟩ := hc
    obtain ⟨Cc, rfl, xc, _⟩ := hx c0 cls ns0 e0
    have pa : PA (X.suite a ((a, oe) :: pn)) [.Name x p, .Name y p2] (tCons (tVar i) (tCons (tC (.ref C2)) tNil)) := pa_cons hv (pa_cons (pe_glob (X := X.suite a ((a, oe) :: pn)) hy my rfl yd) pa_nil rfl) rfl
    refine PE.weak (pe_callB (X := X.suite a ((a, oe) :: pn)) (call_isX (C2 := C2) xc hz hf) hg hm (by decide +kernel) pa (by decide) (by decide) rfl rfl) fun σ H Q h => ?_
    obtain ⟨b, s, k, c, fs, ns, vs, eH, A, e, h1, h2, h5, q⟩ := inv σ H Q h
    subst eH
    obtain ⟨_, e1, _, hk⟩ := hx c _ ns h2
    refine ⟨_, h1, cs.contains c, rfl, hk, ?_, ?_⟩
    · rcases h5 with ⟨_, e⟩ | ⟨dd, e, q⟩
      · exact .inl e
      · exact .inr ⟨dd, _, e, q⟩
    · exact q.fin0 (Go.refl b) A rfl (.bl (Φ := fun _ => none) _)
  · exact ⟨fun pins s1 σ H Q I h => by
      obtain ⟨b, s, k, c, fs, ns, vs, eH, A, e, h1, h2, h5, q⟩ := inv σ H Q h
      exact absurd ⟨c, ns, h2⟩ hc⟩
end
end BT
end

section
/-! BtChk: does a text of the small language tell a text of the model's syntax? And: then it is so. -/
namespace BT
open PySem PySem.Spec L2
open PyProof.Rows hiding St
set_option autoImplicit false

/-- a def: its slots, its scope; the module: its defs by number, the built-ins that it leaves alone -/
structure Md where
  fn : Nat → Option PySem.Str
  blt : List PySem.Str
  gcd : Bool
  str : PySem.Str → Option (List Nat)
  num : PySem.Str → Option Int
  nex : Nat := 0
  exc : Nat → Option (PySem.Str × List PySem.Str) := fun _ => none
  sub : Nat → Nat → Bool := fun _ _ => false
  eid : PySem.Str → Option Nat := fun _ => none
structure Ck where
  N : List PySem.Str
  sc : Scope
  md : Md
  ev : Option (Option (Nat × PySem.Str)) := none
abbrev Ck.fn (k : Ck) : Nat → Option PySem.Str := k.md.fn
abbrev Ck.blt (k : Ck) : List PySem.Str := k.md.blt
abbrev Ck.gcd (k : Ck) : Bool := k.md.gcd
def Ck.lk (k : Ck) (x : PySem.Str) : Option NameKind := k.sc.names.lookup x
def Ck.vis (k : Ck) (x : PySem.Str) : Bool := k.lk x == some .local || k.lk x == some .cell || k.lk x == some .free
def Ck.slot (k : Ck) (i : Nat) (x : PySem.Str) : Bool := k.N[i]? == some x && k.vis x && !(x == ("__debug__" : PySem.Str)) && !(x == ("__classdict__" : PySem.Str))
def Ck.locl (k : Ck) (i : Nat) (x : PySem.Str) : Bool := k.slot i x && (k.lk x == some .local || k.lk x == some .cell)
def Ck.glob (k : Ck) (x : PySem.Str) : Bool := k.lk x == some .globalImplicit && !(x == ("__debug__" : PySem.Str)) && !(x == ("__name__" : PySem.Str))
def biName : BI → PySem.Str
  | .len => "len" | .int => "int" | .abs => "abs" | .gcd => "gcd" | .max2 => "max" | .min2 => "min" | .str => "str" | .sum => "sum"
def Ck.bi (k : Ck) (f : BI) : Bool := match f with
  | .gcd => k.gcd
  | f => k.blt.contains (biName f)
/-- may it run while an exception is handled? -/
def coolB : BI → Bool
  | .max2 => false
  | .min2 => false
  | .sum => false
  | _ => true
/-- the class y, and the classes under it: cs -/
def csOk (m : Md) (y : PySem.Str) (cs : List Nat) : Bool := match m.eid y with
  | some c2 => (match m.exc c2 with
    | some (z, _) => z == y && (List.range m.nex).all fun c => cs.contains c == m.sub c c2
    | none => false)
  | none => false
def tabOk (m : Md) (f : PySem.Str) (tab : List (Nat × Nat)) : Bool := (List.range m.nex).all fun c => match tab.lookup c with
  | some j => (match m.exc c with
    | some (_, ns) => ns[j]? == some f
    | none => true)
  | none => true
def noSl : Expr → Bool
  | .Slice .. => false
  | .Tuple .. => false
  | _ => true
def isIf : Expr → Bool
  | .IfExp .. => true
  | _ => false
def noComp : Expr → Bool
  | .ListComp .. => false
  | .SetComp .. => false
  | .DictComp .. => false
  | _ => true
mutual
def ckE (k : Ck) : CE → Expr → Bool
  | .non, .Constant .none _ _ => true
  | .bl b, .Constant (.bool c) _ _ => b == c
  | .int i, .Constant (.int j) _ _ => i == j
  | .str s, .Constant (.str x) _ _ => s == x.cps.toList && s.all (· < 1114112)
  | .str s, .Name x _ => k.glob x && k.md.str x == some s && s.all (· < 1114112)
  | .int i, .Name x _ => k.glob x && k.md.num x == some i
  | .var i, .Name x _ => k.slot i x
  | .bor i, .Name x _ => k.slot i x
  | .mv i, .Name x _ => k.slot i x
  | .bin op a b, .BinOp l o r _ => (o == opOf op) && ckE k a l && ckE k b r
  | .neg a, .UnaryOp .USub e _ => ckE k a e
  | .lof a, .Call (.Name x _) [e] [] _ => x == ("list" : PySem.Str) && k.glob x && k.blt.contains x && ckE k a e
  | .tof a, .Call (.Name x _) [e] [] _ => x == ("tuple" : PySem.Str) && k.glob x && k.blt.contains x && ckE k a e
  | .sl a lo hi, .Subscript l (.Slice e1 e2 none _) _ => ckE k a l && ckO k lo e1 && ckO k hi e2
  | .cat a b, .BinOp l o r _ => (o == .Add) && ckE k a l && ckE k b r
  | .cmp op a b, .Compare l [o] [r] _ => (o == cmpOf op) && !behindInMarks (cmpOf op) r && ckE k a l && ckE k b r
  | .chn o1 o2 a b c, .Compare l [p1, p2] [r1, r2] _ => (p1 == cmpOf o1) && (p2 == cmpOf o2) && !lastMarks [cmpOf o1, cmpOf o2] [r1, r2] && ckE k a l && ckE k b r1 && ckE k c r2
  | .and a b, .BoolOp .And (l :: r :: rest) p => ckE k a l && !isIf l && (match rest with | [] => ckE k b r && !isIf r | x :: y => ckE k b (.BoolOp .And (r :: x :: y) p))
  | .or a b, .BoolOp .Or (l :: r :: rest) p => ckE k a l && !isIf l && (match rest with | [] => ckE k b r && !isIf r | x :: y => ckE k b (.BoolOp .Or (r :: x :: y) p))
  | .not a, .UnaryOp .Not e _ => ckE k a e && !isIf e
  | .ife c a b, .IfExp t x y _ => ckE k c t && !isIf t && ckE k a x && ckE k b y
  | .tup _ es, .Tuple xs _ _ => ckEs k es xs
  | .lst _ es, .List xs _ => ckEs k es xs
  | .idx a i, .Subscript l r _ => ckE k a l && ckE k i r && noSl r
  | .call f es, .Call (.Name x _) (e :: xs) [] _ => k.fn f == some x && k.glob x && ckEs k es (e :: xs) && k.ev.isNone
  | .bi f es, .Call (.Name x _) (e :: xs) [] _ => x == biName f && k.glob x && k.bi f && ckEs k es (e :: xs) && (k.ev.isNone || coolB f)
  | .isi t c, .Call (.Name x _) [e, .Name y _] [] _ => x == ("isinstance" : PySem.Str) && k.glob x && k.blt.contains x && ckE k c e && y == PySem.Str.ofString (tyName t) && k.glob y && k.blt.contains y
  | .xf i tab, .Attribute (.Name x _) f _ => k.ev == some (some (i, x)) && k.slot i x && tabOk k.md f tab
  | .xis i cs, .Call (.Name g _) [.Name x _, .Name y _] [] _ => g == ("isinstance" : PySem.Str) && k.glob g && k.blt.contains g && k.ev == some (some (i, x)) && k.slot i x && k.glob y && csOk k.md y cs
  | _, _ => false
def ckO (k : Ck) : CO → Option Expr → Bool
  | .non, none => true
  | .som c, some e => ckE k c e
  | _, _ => false
def ckEs (k : Ck) : CEs → List Expr → Bool
  | .nil, [] => true
  | .cons c cs, e :: es => ckE k c e && ckEs k cs es
  | _, _ => false
end
/-- a class of the text, by its name -/
def clsA (K : PySem.W.Frag) (x : PySem.Str) : Value := match PySem.W.nsIn K mainGlobals x with
  | some (some v) => v
  | _ => .none
theorem clsA_of {K : PySem.W.Frag} {x : PySem.Str} {v : Value} (h : PySem.W.nsIn K mainGlobals x = some (some v)) : clsA K x = v := by
  unfold clsA
  rw [h]
/-- what the text's top says of its exceptions -/
structure XTop (T : Tb) (P : Program) (K : PySem.W.Frag) (mg : PySem.Str → Option Value) (M : Md) : Prop where
  at_ : ∀ c x ns, M.exc c = some (x, ns) → ∃ C, T.exc c = some (.ref C, ns) ∧ mg x = some (.ref C) ∧ ns.Nodup ∧ (ns ≠ [] → ∃ fI fd, XIni P K mg C ns fI fd)
  cls : ∀ c v ns, T.exc c = some (v, ns) → ∃ C x, v = .ref C ∧ M.exc c = some (x, ns) ∧ c < M.nex ∧ XCls K C ∧ ∀ f ∈ ns, PySem.W.findIn K (.ref C) f = some none
  sub : ∀ c c2 p C2 ns2, T.exc c = some p → T.exc c2 = some (.ref C2, ns2) → PySem.W.subIn K p.1 (.ref C2) = some (M.sub c c2)
  refl : ∀ c p, T.exc c = some p → M.sub c c = true
/-- the class that a clause names -/
theorem XTop.named {T : Tb} {P : Program} {K : PySem.W.Frag} {mg : PySem.Str → Option Value} {M : Md} (h : XTop T P K mg M) {y : PySem.Str} {cs : List Nat} (hc : csOk M y cs = true) :
    ∃ C2, mg y = some (.ref C2) ∧ ∀ c v ns, T.exc c = some (v, ns) → ∃ C, v = .ref C ∧ XCls K C ∧ (∀ f ∈ ns, PySem.W.findIn K (.ref C) f = some none) ∧ PySem.W.exmOne K v (.ref C2) = some (cs.contains c) ∧ PySem.W.kitOne K v (.ref C2) = some (cs.contains c) := by
  unfold csOk at hc
  split at hc
  · rename_i c2 e2
    split at hc
    · rename_i z ns2 e3
      rw [Bool.and_eq_true, beq_iff_eq, List.all_eq_true] at hc
      obtain ⟨rfl, h2⟩ := hc
      obtain ⟨C2, t2, m2, _⟩ := h.at_ c2 z ns2 e3
      obtain ⟨_, _, e4, _, _, x2, _⟩ := h.cls c2 _ _ t2
      cases e4
      refine ⟨C2, m2, fun c v ns e => ?_⟩
      obtain ⟨C, x, rfl, _, hlt, xc, na⟩ := h.cls c v ns e
      have q := h2 c (List.mem_range.mpr hlt)
      have q : cs.contains c = M.sub c c2 := beq_iff_eq.mp q
      have sb := h.sub c c2 _ C2 ns2 e t2
      have sr := h.sub c2 c2 _ C2 ns2 t2 t2
      rw [h.refl c2 _ t2] at sr
      rw [← q] at sb
      exact ⟨C, rfl, xc, na, x2.exm sb, x2.kit sb sr⟩
    · cases hc
  · cases hc
/-- what holds where a def's body (or a part of it) runs -/
structure Gd (T : Tb) (C : CF) (k : Ck) (X : Cx) (W : WX) : Prop where
  K : X.K = T.K
  calm : k.ev = none → X.calm = true
  cool : k.ev = none → T.xo = none
  hot : ∀ i x, k.ev = some (some (i, x)) → ∃ X0 a oe cls d pn, X = Cx.suite X0 a ((a, oe) :: pn) ∧ Zc cls d oe ∧ (∃ vs, oe.data = .fields vs) ∧ T.xo = some (a, cls, d)
  frm : X.stack = X.env :: X.outer ∧ X.env.frame = some X.env.locals
  two : k.ev = none → Room 2 X.A
  xt : XTop T X.prog X.K X.mg k.md
  units : X.A.units + 200 < cLine
  tk : Takes X W
  N : X.N = k.N
  sc : X.env.scope = k.sc
  fk : k.sc.kind = .function
  nd : k.N.Nodup
  fnT : ∀ x, X.fn x = true
  pass : PassesOwn (model X.prog X.w) X.A X.env X.xe
  blt : ∀ x, k.blt.contains x = true → X.mg x = none
  gcd : k.gcd = true → X.mg "gcd" = some (.builtin "math.gcd")
  str : ∀ x s, k.md.str x = some s → ∃ u, X.mg x = some u ∧ RelV (.str (sv s)) u
  num : ∀ x i, k.md.num x = some i → ∃ u, X.mg x = some u ∧ RelV (.int i) u
  calls : k.ev = none → ∀ f x, k.fn f = some x → ∃ fa fd ps j, FnOk X.prog X.w X.K X.mg X.base (L2.CX X.prog X.w) j fa fd ps (spC T (C f)) ∧ Room j X.A ∧ X.mg x = some (.ref fa) ∧ PySem.W.keepIn X.K (.ref fa) = true ∧ Binds X.K fd ps []
section
variable {T : Tb} {C : CF} {k : Ck} {X : Cx} {W : WX}
theorem Gd.slot (G : Gd T C k X W) {i : Nat} {x : PySem.Str} {p : Pos} (h : k.slot i x = true) : PE X (.Name x p) (tVar i) := by
  unfold Ck.slot at h
  simp only [Bool.and_eq_true, beq_iff_eq, Bool.not_eq_true'] at h
  obtain ⟨⟨⟨h1, h2⟩, h3⟩, h4⟩ := h
  refine pe_var (by rw [G.N]; exact h1) ?_ h3 h4
  unfold Ck.vis Ck.lk at h2
  simp only [Bool.or_eq_true, beq_iff_eq] at h2
  unfold Vis
  rw [G.sc]
  exact or_assoc.mp h2
theorem Gd.locl (G : Gd T C k X W) {i : Nat} {x : PySem.Str} (h : k.locl i x = true) : X.N[i]? = some x ∧ L2.Loc X.env.scope x := by
  unfold Ck.locl Ck.slot Ck.lk at h
  simp only [Bool.and_eq_true, Bool.or_eq_true, beq_iff_eq] at h
  refine ⟨by rw [G.N]; exact h.1.1.1.1, ?_⟩
  unfold L2.Loc
  rw [G.sc]
  exact h.2
theorem Gd.glob (G : Gd T C k X W) {x : PySem.Str} (h : k.glob x = true) : Gl X x ∧ (x == ("__debug__" : PySem.Str)) = false ∧ x ≠ "__name__" := by
  unfold Ck.glob Ck.lk at h
  simp only [Bool.and_eq_true, beq_iff_eq, Bool.not_eq_true'] at h
  refine ⟨?_, h.1.2, fun e => ?_⟩
  · show X.env.scope.names.lookup x = _
    rw [G.sc]; exact h.1.1
  · subst e; simp at h
/-- a name of the module, by its value -/
theorem pe_cst {x : PySem.Str} {pos : Pos} {v : V} (hg : Gl X x) (h : ∃ u, X.mg x = some u ∧ RelV v u) (hd : (x == ("__debug__" : PySem.Str)) = false) : PE X (.Name x pos) (tC v) := by
  obtain ⟨u, hm, r⟩ := h
  exact pe_glob hg hm r hd
theorem ck_star {c : CE} {e : Expr} {es : List Expr} {env : Env} (h : ckE k c e = true) : starEach (e :: es) env = (false, eval e env) :: starEach es env := by
  cases e <;> first | rfl | (cases c <;> simp [ckE] at h)
theorem ck_plain : ∀ {cs : CEs} {es : List Expr} {pos : Pos} {env : Env}, ckEs k cs es = true → (backTo pos (starEach es env)).any (·.1) = false := by
  intro cs es pos env
  induction es generalizing cs with
  | nil => intro _; rfl
  | cons e es ih =>
    intro h
    cases cs with
    | nil => simp [ckEs] at h
    | cons c cs =>
      simp only [ckEs, Bool.and_eq_true] at h
      rw [ck_star h.1]
      show (backTo pos ((false, eval e env) :: starEach es env)).any (·.1) = false
      have := ih (cs := cs) h.2
      simp only [backTo] at this ⊢
      simpa using this
theorem ck_ix {c : CE} {e : Expr} (h : ckE k c e = true) (n : noSl e = true) : PlainIx e := by
  intro o i
  cases e <;> first | rfl | (simp [noSl] at n) | (cases c <;> simp [ckE] at h)
end

/-- what is known of an expression that was checked -/
structure SE (T : Tb) (C : CF) (X : Cx) (W : WX) (c : CE) (e : Expr) : Prop where
  pe : PE X e (tE T C W c)
  pt : isIf e = false → PT X e (tT T C W c)
  pw : ∀ op vs p, e = .BoolOp op vs p → PW X e (tT T C W c)
section
variable {T : Tb} {C : CF} {k : Ck} {X : Cx} {W : WX}
theorem SE.plain {c : CE} {e : Expr} (hK : X.K = T.K) (pe : PE X e (tE T C W c)) (he : ∀ whole, isTrue e X.env whole = (do let v ← whole; standAt e.pos; holding [v] (truthy v))) (hb : ∀ op vs p, e ≠ .BoolOp op vs p) : SE T C X W c e :=
  ⟨pe, fun _ => snd_truth hK pe he, fun op vs p q => absurd q (hb op vs p)⟩
theorem bt_boot_tuple : bootBuiltins "tuple" = some (.type "tuple") := by decide +kernel
theorem bt_boot_list : bootBuiltins "list" = some (.type "list") := by decide +kernel
theorem bt_boot_str : bootBuiltins "str" = some (.type "str") := by decide +kernel
theorem bt_boot_bool : bootBuiltins "bool" = some (.type "bool") := by decide +kernel
theorem bt_boot_ty (t : Ty) : bootBuiltins (PySem.Str.ofString (tyName t)) = some (.type (tyName t)) := by
  cases t
  · decide +kernel
  · exact bt_boot_bool
  · exact bt_boot_str
  · exact bt_boot_tuple
  · exact bt_boot_list
/-- isinstance's second argument -/
theorem snd_isi {c : CE} {e : Expr} {t : Ty} {y : PySem.Str} {p1 p2 pos : Pos} (G : Gd T C k X W) (h : PE X e (tE T C W c)) (he : ckE k c e = true) (hy : y = PySem.Str.ofString (tyName t)) (gy : k.glob y = true) (by' : k.blt.contains y = true) (gx : k.glob "isinstance" = true) (bx : k.blt.contains "isinstance" = true) :
    PE X (.Call (.Name "isinstance" p1) [e, .Name y p2] [] pos) (tE T C W (.isi t c)) := by
  have g1 := G.glob gx
  have g2 := G.glob gy
  have hb : bootBuiltins y = some (.type (tyName t)) := by rw [hy]; exact bt_boot_ty t
  have p2' : PE X (.Name y p2) (tC (.ty (tyName t))) := pe_bltn g2.1 (G.blt y by') hb rfl g2.2.2 g2.2.1
  have pa : PA X [e, .Name y p2] (tCons (tE T C W c) (tCons (tC (.ty (tyName t))) tNil)) := pa_cons h (pa_cons p2' pa_nil) (ck_star he)
  refine PE.weak (pe_callB (cr_isT (T := T) G.K t) g1.1 (G.blt _ bx) (by decide +kernel) pa (by decide) (by decide) (ck_star he) rfl) fun σ H Q ⟨b, s, eH, A, q⟩ => ?_
  subst eH
  unfold evalE at q
  refine ⟨b, s, rfl, A, (Post.seq (Go.refl b) q).mono fun v H1 ⟨x, s1, b1, o1, e1, g1, A1, E1, h1⟩ => ?_⟩
  subst e1
  obtain ⟨r, hr, h2⟩ := Post.liftB h1
  exact ⟨b1.ρ, x.d, v, r, rfl, E1.see, hr, h2.fin0 g1 A1 rfl (.bl (Φ := fun _ => none) _)⟩
mutual
theorem sndE (G : Gd T C k X W) : ∀ (c : CE) (e : Expr), ckE k c e = true → SE T C X W c e
  | .non, e, h => by
    cases e <;> try (simp [ckE] at h; done)
    rename_i v j p
    cases v <;> try (simp [ckE] at h; done)
    exact .plain G.K (snd_c pe_non (fun _ => by simp only [evalE]) rfl fun _ _ => .non) (fun _ => rfl) (fun _ _ _ q => by cases q)
  | .bl b, e, h => by
    cases e <;> try (simp [ckE] at h; done)
    rename_i v j p
    cases v <;> try (simp [ckE] at h; done)
    simp only [ckE, beq_iff_eq] at h
    subst h
    exact .plain G.K (snd_c pe_bl (fun _ => by simp only [evalE]) rfl fun _ _ => .bl _) (fun _ => rfl) (fun _ _ _ q => by cases q)
  | .int i, e, h => by
    cases e <;> try (simp [ckE] at h; done)
    · rename_i v j p
      cases v <;> try (simp [ckE] at h; done)
      simp only [ckE, beq_iff_eq] at h
      subst h
      exact .plain G.K (snd_c pe_int (fun _ => by simp only [evalE]) rfl fun _ _ => .int _) (fun _ => rfl) (fun _ _ _ q => by cases q)
    · rename_i x p
      simp only [ckE, Bool.and_eq_true, beq_iff_eq] at h
      have gl := G.glob h.1
      exact .plain G.K (snd_c (pe_cst gl.1 (G.num x i h.2) gl.2.1) (fun _ => by simp only [evalE]) rfl fun _ _ => .int _) (fun _ => rfl) (fun _ _ _ q => by cases q)
  | .str s, e, h => by
    cases e <;> try (simp [ckE] at h; done)
    · rename_i v j p
      cases v <;> try (simp [ckE] at h; done)
      rename_i x
      simp only [ckE, Bool.and_eq_true, beq_iff_eq] at h
      have hx : x = sv s := by
        cases x
        rw [h.1]
      subst hx
      exact .plain G.K (snd_c pe_str (fun _ => by simp only [evalE]) rfl fun _ _ => .str _ h.2) (fun _ => rfl) (fun _ _ _ q => by cases q)
    · rename_i x p
      simp only [ckE, Bool.and_eq_true, beq_iff_eq] at h
      have gl := G.glob h.1.1
      exact .plain G.K (snd_c (pe_cst gl.1 (G.str x s h.1.2) gl.2.1) (fun _ => by simp only [evalE]) rfl fun _ _ => .str _ h.2) (fun _ => rfl) (fun _ _ _ q => by cases q)
  | .var i, e, h => by
    cases e <;> try (simp [ckE] at h; done)
    simp only [ckE] at h
    exact .plain G.K (snd_var (G.slot h)) (fun _ => rfl) (fun _ _ _ q => by cases q)
  | .bor i, e, h => by
    cases e <;> try (simp [ckE] at h; done)
    simp only [ckE] at h
    exact .plain G.K (snd_bor (G.slot h)) (fun _ => rfl) (fun _ _ _ q => by cases q)
  | .mv i, e, h => by
    cases e <;> try (simp [ckE] at h; done)
    simp only [ckE] at h
    exact .plain G.K (snd_mv (G.slot h)) (fun _ => rfl) (fun _ _ _ q => by cases q)
  | .bin op a b, e, h => by
    cases e <;> try (simp [ckE] at h; done)
    simp only [ckE, Bool.and_eq_true, beq_iff_eq] at h
    obtain ⟨⟨rfl, h1⟩, h2⟩ := h
    exact .plain G.K (snd_bin (sndE G a _ h1).pe (sndE G b _ h2).pe) (fun _ => rfl) (fun _ _ _ q => by cases q)
  | .lof a, e, h => by
    cases e <;> try (simp [ckE] at h; done)
    rename_i g args kws p
    cases g <;> try (simp [ckE] at h; done)
    rename_i x px
    match args, kws, h with
    | [f], [], h =>
      simp only [ckE, Bool.and_eq_true, beq_iff_eq] at h
      obtain ⟨⟨⟨rfl, h2⟩, h3⟩, h4⟩ := h
      have hs := ck_star (es := []) (env := X.env) h4
      exact .plain G.K (snd_lof G.K (G.glob h2).1 (G.blt _ h3) (sndE G a f h4).pe hs) (fun _ => rfl) (fun _ _ _ q => by cases q)
    | [], _, h => simp [ckE] at h
    | _ :: _ :: _, _, h => simp [ckE] at h
    | [_], _ :: _, h => simp [ckE] at h
  | .tof a, e, h => by
    cases e <;> try (simp [ckE] at h; done)
    rename_i g args kws p
    cases g <;> try (simp [ckE] at h; done)
    rename_i x px
    match args, kws, h with
    | [f], [], h =>
      simp only [ckE, Bool.and_eq_true, beq_iff_eq] at h
      obtain ⟨⟨⟨rfl, h2⟩, h3⟩, h4⟩ := h
      have hs := ck_star (es := []) (env := X.env) h4
      exact .plain G.K (snd_tof G.K (G.glob h2).1 (G.blt _ h3) (sndE G a f h4).pe hs) (fun _ => rfl) (fun _ _ _ q => by cases q)
    | [], _, h => simp [ckE] at h
    | _ :: _ :: _, _, h => simp [ckE] at h
    | [_], _ :: _, h => simp [ckE] at h
  | .sl a lo hi, e, h => by
    cases e <;> try (simp [ckE] at h; done)
    rename_i l r p
    cases r <;> try (simp [ckE] at h; done)
    rename_i e1 e2 e3 p2
    cases e3 with
    | some _ => simp [ckE] at h
    | none =>
      simp only [ckE, Bool.and_eq_true] at h
      exact .plain G.K (snd_sl G.K (sndE G a _ h.1.1).pe (sndO G lo _ h.1.2) (sndO G hi _ h.2)) (fun _ => rfl) (fun _ _ _ q => by cases q)
  | .cat a b, e, h => by
    cases e <;> try (simp [ckE] at h; done)
    simp only [ckE, Bool.and_eq_true, beq_iff_eq] at h
    obtain ⟨⟨rfl, h1⟩, h2⟩ := h
    exact .plain G.K (snd_cat G.K (sndE G a _ h1).pe (sndE G b _ h2).pe) (fun _ => rfl) (fun _ _ _ q => by cases q)
  | .neg a, e, h => by
    cases e <;> try (simp [ckE] at h; done)
    rename_i op x p
    cases op <;> try (simp [ckE] at h; done)
    simp only [ckE] at h
    exact .plain G.K (snd_neg (sndE G a _ h).pe) (fun _ => rfl) (fun _ _ _ q => by cases q)
  | .cmp op a b, e, h => by
    cases e <;> try (simp [ckE] at h; done)
    rename_i l ops cs p
    match ops, cs, h with
    | [o], [r], h =>
      simp only [ckE, Bool.and_eq_true, beq_iff_eq, Bool.not_eq_true'] at h
      obtain ⟨⟨⟨rfl, hm⟩, h1⟩, h2⟩ := h
      exact ⟨snd_cmp G.K G.units (sndE G a _ h1).pe (sndE G b _ h2).pe hm, fun _ => snd_cmpT G.K G.units (sndE G a _ h1).pe (sndE G b _ h2).pe hm, fun _ _ _ q => by cases q⟩
    | [], _, h => simp [ckE] at h
    | _ :: _ :: _, _, h => simp [ckE] at h
    | [_], [], h => simp [ckE] at h
    | [_], _ :: _ :: _, h => simp [ckE] at h
  | .chn o1 o2 a b c, e, h => by
    cases e <;> try (simp [ckE] at h; done)
    rename_i l ops cs p
    match ops, cs, h with
    | [p1, p2], [r1, r2], h =>
      simp only [ckE, Bool.and_eq_true, beq_iff_eq, Bool.not_eq_true'] at h
      obtain ⟨⟨⟨⟨⟨rfl, rfl⟩, hm⟩, h1⟩, h2⟩, h3⟩ := h
      exact ⟨snd_chn G.K G.units (sndE G a _ h1).pe (sndE G b _ h2).pe (sndE G c _ h3).pe hm, fun _ => snd_chnT G.K G.units (sndE G a _ h1).pe (sndE G b _ h2).pe (sndE G c _ h3).pe hm, fun _ _ _ q => by cases q⟩
    | [], _, h => simp [ckE] at h
    | [_], _, h => simp [ckE] at h
    | _ :: _ :: _ :: _, _, h => simp [ckE] at h
    | [_, _], [], h => simp [ckE] at h
    | [_, _], [_], h => simp [ckE] at h
    | [_, _], _ :: _ :: _ :: _, h => simp [ckE] at h
  | .and a b, e, h => by
    cases e <;> try (simp [ckE] at h; done)
    rename_i op vs p
    cases op <;> try (simp [ckE] at h; done)
    match vs, h with
    | [l, r], h =>
      simp only [ckE, Bool.and_eq_true, Bool.not_eq_true'] at h
      obtain ⟨⟨h1, n1⟩, h2, n2⟩ := h
      have w := snd_andT (pos := p) ((sndE G a _ h1).pt n1) (pw_and1 ((sndE G b _ h2).pt n2))
      exact ⟨snd_and G.K (sndE G a _ h1).pe (pe_one (sndE G b _ h2).pe), fun _ => w.pt, fun _ _ _ _ => w⟩
    | l :: r :: x :: y, h =>
      simp only [ckE, Bool.and_eq_true, Bool.not_eq_true'] at h
      obtain ⟨⟨h1, n1⟩, h2⟩ := h
      have w := snd_andT (pos := p) ((sndE G a _ h1).pt n1) ((sndE G b _ h2).pw _ _ _ rfl)
      exact ⟨snd_and G.K (sndE G a _ h1).pe (sndE G b _ h2).pe, fun _ => w.pt, fun _ _ _ _ => w⟩
    | [], h => simp [ckE] at h
    | [_], h => simp [ckE] at h
  | .or a b, e, h => by
    cases e <;> try (simp [ckE] at h; done)
    rename_i op vs p
    cases op <;> try (simp [ckE] at h; done)
    match vs, h with
    | [l, r], h =>
      simp only [ckE, Bool.and_eq_true, Bool.not_eq_true'] at h
      obtain ⟨⟨h1, n1⟩, h2, n2⟩ := h
      have w := snd_orT (pos := p) ((sndE G a _ h1).pt n1) (pw_or1 ((sndE G b _ h2).pt n2))
      exact ⟨snd_or G.K (sndE G a _ h1).pe (pe_one (sndE G b _ h2).pe), fun _ => w.pt, fun _ _ _ _ => w⟩
    | l :: r :: x :: y, h =>
      simp only [ckE, Bool.and_eq_true, Bool.not_eq_true'] at h
      obtain ⟨⟨h1, n1⟩, h2⟩ := h
      have w := snd_orT (pos := p) ((sndE G a _ h1).pt n1) ((sndE G b _ h2).pw _ _ _ rfl)
      exact ⟨snd_or G.K (sndE G a _ h1).pe (sndE G b _ h2).pe, fun _ => w.pt, fun _ _ _ _ => w⟩
    | [], h => simp [ckE] at h
    | [_], h => simp [ckE] at h
  | .not a, e, h => by
    cases e <;> try (simp [ckE] at h; done)
    rename_i op x p
    cases op <;> try (simp [ckE] at h; done)
    simp only [ckE, Bool.and_eq_true, Bool.not_eq_true'] at h
    exact ⟨snd_not G.K (sndE G a _ h.1).pe, fun _ => snd_notT ((sndE G a _ h.1).pt h.2), fun _ _ _ q => by cases q⟩
  | .ife c a b, e, h => by
    cases e <;> try (simp [ckE] at h; done)
    simp only [ckE, Bool.and_eq_true, Bool.not_eq_true'] at h
    obtain ⟨⟨⟨h1, n1⟩, h2⟩, h3⟩ := h
    exact ⟨snd_ife ((sndE G c _ h1).pt n1) (sndE G a _ h2).pe (sndE G b _ h3).pe, fun q => by simp [isIf] at q, fun _ _ _ q => by cases q⟩
  | .tup j es, e, h => by
    cases e <;> try (simp [ckE] at h; done)
    simp only [ckE] at h
    exact .plain G.K (snd_tup (sndEs G es _ h)) (fun _ => rfl) (fun _ _ _ q => by cases q)
  | .lst j es, e, h => by
    cases e <;> try (simp [ckE] at h; done)
    simp only [ckE] at h
    exact .plain G.K (snd_lst (sndEs G es _ h)) (fun _ => rfl) (fun _ _ _ q => by cases q)
  | .idx a i, e, h => by
    cases e <;> try (simp [ckE] at h; done)
    simp only [ckE, Bool.and_eq_true] at h
    obtain ⟨⟨h1, h2⟩, h3⟩ := h
    exact .plain G.K (snd_idx G.K (sndE G a _ h1).pe (sndE G i _ h2).pe (ck_ix h2 h3)) (fun _ => rfl) (fun _ _ _ q => by cases q)
  | .call f es, e, h => by
    cases e <;> try (simp [ckE] at h; done)
    rename_i g args kws p
    cases g <;> try (simp [ckE] at h; done)
    rename_i x px
    match args, kws, h with
    | a :: as, [], h =>
      simp only [ckE, Bool.and_eq_true, beq_iff_eq] at h
      obtain ⟨⟨⟨h1, h2⟩, h3⟩, h0⟩ := h
      obtain ⟨fa, fd, ps, j, F, hr, hm, hk, hb⟩ := G.calls (Option.isNone_iff_eq_none.mp h0) f x h1
      have g := G.glob h2
      cases es with
      | nil => simp [ckEs] at h3
      | cons c cs =>
        have h4 := h3
        simp only [ckEs, Bool.and_eq_true] at h4
        exact .plain G.K (snd_call F hr g.1 hm hk hb G.tk (sndEs G (.cons c cs) _ h3) g.2.1 (ck_star h4.1) (ck_plain h4.2)) (fun _ => rfl) (fun _ _ _ q => by cases q)
    | [], _, h => simp [ckE] at h
    | _ :: _, _ :: _, h => simp [ckE] at h
  | .isi t c, e, h => by
    cases e <;> try (simp [ckE] at h; done)
    rename_i g args kws p
    cases g <;> try (simp [ckE] at h; done)
    rename_i x px
    match args, kws, h with
    | [a, y0], [], h =>
      cases y0 <;> try (simp [ckE] at h; done)
      rename_i y py
      simp only [ckE, Bool.and_eq_true, beq_iff_eq] at h
      obtain ⟨⟨⟨⟨⟨⟨rfl, h2⟩, h3⟩, h4⟩, h5⟩, h6⟩, h7⟩ := h
      exact .plain G.K (snd_isi G (sndE G c _ h4).pe h4 h5 h6 h7 h2 h3) (fun _ => rfl) (fun _ _ _ q => by cases q)
    | _, _ :: _, h => simp [ckE] at h
    | [], [], h => simp [ckE] at h
    | [_], [], h => simp [ckE] at h
    | _ :: _ :: _ :: _, [], h => simp [ckE] at h
  | .bi f es, e, h => by
    cases e <;> try (simp [ckE] at h; done)
    rename_i g args kws p
    cases g <;> try (simp [ckE] at h; done)
    rename_i x px
    match args, kws, h with
    | a :: as, [], h =>
      simp only [ckE, Bool.and_eq_true, beq_iff_eq] at h
      obtain ⟨⟨⟨⟨rfl, h2⟩, h3⟩, h4⟩, h0⟩ := h
      have hcalm : coolB f = false → X.calm = true := fun e => by
        rw [e, Bool.or_false] at h0
        exact G.calm (Option.isNone_iff_eq_none.mp h0)
      have g := G.glob h2
      have pa := sndEs G es _ h4
      have hs : starEach (a :: as) X.env = (false, eval a X.env) :: starEach as X.env ∧ (backTo p (starEach as X.env)).any (·.1) = false := by
        cases es with
        | nil => simp [ckEs] at h4
        | cons c cs =>
          simp only [ckEs, Bool.and_eq_true] at h4
          exact ⟨ck_star h4.1, ck_plain h4.2⟩
      obtain ⟨hs, hp⟩ := hs
      have fin : ∀ {σ : St} {H : Hp} {Q : VK}, tE T C W (.bi f es) σ H Q → tCB (rBI T f) (tEs T C W es) σ H Q := fun {σ H Q} ⟨b, s, eH, A, q⟩ => by
        subst eH; exact bi_weak A q
      have mk : ∀ {id : String}, CallR X (.builtin id) (rBI T f) → bootBuiltins (biName f) = some (.builtin id) → k.blt.contains (biName f) = true → SE T C X W (.bi f es) (.Call (.Name (biName f) px) (a :: as) [] p) := fun {id} hc hb h3 =>
        .plain G.K (PE.weak (pe_callB hc g.1 (G.blt _ h3) hb pa g.2.2 g.2.1 hs hp) fun _ _ _ => fin) (fun _ => rfl) (fun _ _ _ q => by cases q)
      cases f with
      | len => exact mk (cr_len G.K) (by decide +kernel) h3
      | abs => exact mk cr_abs (by decide +kernel) h3
      | max2 => exact mk (cr_max2 (hcalm rfl)) (by decide +kernel) h3
      | min2 => exact mk (cr_min2 (hcalm rfl)) (by decide +kernel) h3
      | sum => exact mk (cr_sumB G.K (hcalm rfl)) (by decide +kernel) h3
      | str => exact .plain G.K (PE.weak (pe_callTy cr_strB g.1 (G.blt _ h3) (by decide +kernel) pa g.2.2 g.2.1 hs hp) fun _ _ _ => fin) (fun _ => rfl) (fun _ _ _ q => by cases q)
      | int => exact .plain G.K (PE.weak (pe_callTy cr_int g.1 (G.blt _ h3) (by decide +kernel) pa g.2.2 g.2.1 hs hp) fun _ _ _ => fin) (fun _ => rfl) (fun _ _ _ q => by cases q)
      | gcd => exact .plain G.K (PE.weak (pe_callBfun cr_gcdB g.1 (G.gcd h3) pa g.2.1 hs hp) fun _ _ _ => fin) (fun _ => rfl) (fun _ _ _ q => by cases q)
    | [], _, h => simp [ckE] at h
    | _ :: _, _ :: _, h => simp [ckE] at h
  | .xf i tab, e, h => by
    cases e <;> try (simp [ckE] at h; done)
    rename_i o f p
    cases o <;> try (simp [ckE] at h; done)
    rename_i x px
    simp only [ckE, Bool.and_eq_true, beq_iff_eq] at h
    obtain ⟨⟨h1, h2⟩, h3⟩ := h
    refine .plain G.K ?_ (fun _ => rfl) (fun _ _ _ q => by cases q)
    have hv := G.slot (p := px) h2
    obtain ⟨X0, a, oe, cls, d, pn, rfl, hz, hf, hxo⟩ := G.hot i x h1
    refine snd_xf (X := X0) G.K hz hf hxo (fun c v ns e => ?_) (fun c j hj p hp => ?_) hv
    · obtain ⟨C, _, h1, _, _, h4, h5⟩ := G.xt.cls c v ns e
      exact ⟨C, h1, h4, h5⟩
    · obtain ⟨v, ns⟩ := p
      obtain ⟨C, y, _, m1, m2, _, _⟩ := G.xt.cls c v ns hp
      unfold tabOk at h3
      have q := List.all_eq_true.mp h3 c (List.mem_range.mpr m2)
      rw [hj] at q
      dsimp only at q
      rw [m1] at q
      exact beq_iff_eq.mp q
  | .xis i cs, e, h => by
    cases e <;> try (simp [ckE] at h; done)
    rename_i g args kws p
    cases g <;> try (simp [ckE] at h; done)
    rename_i g pg
    match args, kws, h with
    | [x0, y0], [], h =>
      cases x0 <;> try (simp [ckE] at h; done)
      cases y0 <;> try (simp [ckE] at h; done)
      rename_i x px y py
      simp only [ckE, Bool.and_eq_true, beq_iff_eq] at h
      obtain ⟨⟨⟨⟨⟨⟨rfl, h2⟩, h3⟩, h4⟩, h5⟩, h6⟩, h7⟩ := h
      refine .plain G.K ?_ (fun _ => rfl) (fun _ _ _ q => by cases q)
      have hv := G.slot (p := px) h5
      have g1 := G.glob h2
      have g2 := G.glob h6
      have hb := G.blt _ h3
      obtain ⟨C2, m2, k2⟩ := G.xt.named h7
      obtain ⟨X0, a, oe, cls, d, pn, rfl, hz, hf, hxo⟩ := G.hot i x h4
      exact snd_xis (X := X0) hz hf hxo (fun c v ns e => by
        obtain ⟨C, e1, e2, _, _, e3⟩ := k2 c v ns e
        exact ⟨C, e1, e2, e3⟩) g1.1 hb g2.1 m2 g2.2.1 hv
    | _, _ :: _, h => simp [ckE] at h
    | [], [], h => simp [ckE] at h
    | [_], [], h => simp [ckE] at h
    | _ :: _ :: _ :: _, [], h => simp [ckE] at h
theorem sndO (G : Gd T C k X W) : ∀ (c : CO) (e : Option Expr), ckO k c e = true → PO X e (tO T C W c)
  | .non, none, _ => snd_ono
  | .som c, some e, h => snd_oso (sndE G c e (by simpa only [ckO] using h)).pe
  | .non, some _, h => by simp [ckO] at h
  | .som _, none, h => by simp [ckO] at h
theorem sndEs (G : Gd T C k X W) : ∀ (cs : CEs) (es : List Expr), ckEs k cs es = true → PA X es (tEs T C W cs)
  | .nil, es, h => by
    cases es with
    | nil => exact snd_nil
    | cons _ _ => simp [ckEs] at h
  | .cons c cs, es, h => by
    cases es with
    | nil => simp [ckEs] at h
    | cons e es =>
      simp only [ckEs, Bool.and_eq_true] at h
      exact snd_cons (sndE G c e h.1).pe (sndEs G cs es h.2) (ck_star h.1)
end
end
end BT
end

section
/-! BtDef: checked statements; the defs of a text; the law. -/
namespace BT
open PySem PySem.Spec L2
open PyProof.Rows hiding St
set_option autoImplicit false

def ckTs (k : Ck) : List Nat → List Expr → Bool
  | [], [] => true
  | i :: is, .Name x _ :: es => k.locl i x && ckTs k is es
  | _, _ => false
def ckTg (k : Ck) : Tg → Expr → Bool
  | .name i, .Name x _ => k.locl i x
  | .tup is, .Tuple ts _ _ => ckTs k is ts
  | _, _ => false
def isTupE : Expr → Bool
  | .Tuple .. => true
  | _ => false
def isSetE : Expr → Bool
  | .Set .. => true
  | _ => false
def isStar : Expr → Bool
  | .Starred .. => true
  | _ => false
/-- a display of constants alone is unpacked as any tuple -/
def allFold : Expr → Bool
  | .Tuple es _ _ => es.all (foldedForSure 8)
  | _ => false
def swap3 (k : Ck) (x y z : PySem.Str) (px py pz : Pos) (e f g : Expr) : Bool :=
  k.lk x == some .local && k.lk y == some .local && k.lk z == some .local && py.line == px.line && pz.line == px.line && !(x == y) && !(x == z) && !(y == z) && !isStar e && !isStar f && !isStar g && !([e, f, g].all (foldedForSure 8)) && !([e, f, g].all (constantsAlone 8))
def isM1 : Expr → Bool
  | .UnaryOp .USub (.Constant (.int 1) _ _) _ => true
  | _ => false
/-- two names on one line take two values, stored from the right -/
def swapOk (k : Ck) (x y : PySem.Str) (px py : Pos) (e f : Expr) : Bool :=
  k.lk x == some .local && k.lk y == some .local && py.line == px.line && !(x == y) && !isStar e && !isStar f && !([e, f].all (foldedForSure 8)) && !([e, f].all (constantsAlone 8))
mutual
/-- may it run while an exception is handled? -/
def coolS : CS → Bool
  | .pass => true
  | .brk => true
  | .cont => true
  | .ret _ => true
  | .retN => true
  | .expr _ => true
  | .asg (.name _) _ => true
  | .ifs _ a b => coolSs a && coolSs b
  | _ => false
def coolSs : CSs → Bool
  | .nil => true
  | .cons a r => coolS a && coolSs r
end
mutual
def ckS (k : Ck) : CS → Stmt → Bool
  | .pass, .Pass _ => true
  | .brk, .Break _ => true
  | .cont, .Continue _ => true
  | .ret c, .Return (some e) _ => ckE k c e
  | .retN, .Return none _ => true
  | .expr c, .Expr e _ => ckE k c e
  | .app i c, .Expr (.Call (.Attribute (.Name x _) m p1) [e] [] p2) _ => k.slot i x && m == ("append" : PySem.Str) && ckE k c e && p1.endLine == p2.line
  | .pop i, .Expr (.Call (.Attribute (.Name x _) m p1) [] [] p2) _ => k.slot i x && m == ("pop" : PySem.Str) && p1.endLine == p2.line
  | .popA i j, .Assign [.Name x _] (.Call (.Attribute (.Name y _) m p1) [] [] p2) _ => k.locl i x && k.slot j y && m == ("pop" : PySem.Str) && p1.endLine == p2.line
  | .appL i c, .Expr (.Call (.Attribute (.Subscript (.Name x _) ix _) m p1) [e] [] p2) _ => k.slot i x && isM1 ix && m == ("append" : PySem.Str) && ckE k c e && p1.endLine == p2.line
  | .par3 i j l a b c, .Assign [.Tuple [.Name x px, .Name y py, .Name z pz] _ _] (.Tuple [e, f, g] _ _) _ => !(i == j) && !(i == l) && !(j == l) && k.locl i x && k.locl j y && k.locl l z && swap3 k x y z px py pz e f g && ckE k a e && ckE k b f && ckE k c g
  | .asg (.name i) c, .Assign [.Name x _] e _ => k.locl i x && ckE k c e
  | .asg (.tup is) c, .Assign [.Tuple ts _ _] e _ => ckTs k is ts && ckE k c e && (!isTupE e || allFold e)
  | .par i j a b, .Assign [.Tuple [.Name x px, .Name y py] _ _] (.Tuple [e, f] _ _) _ => !(i == j) && k.locl i x && k.locl j y && swapOk k x y px py e f && ckE k a e && ckE k b f
  | .setI i ix c, .Assign [.Subscript (.Name x _) j _] e _ => k.slot i x && ckE k ix j && noSl j && ckE k c e
  | .aug i op c, .AugAssign (.Name x _) o e _ => k.locl i x && o == opOf op && ckE k c e
  | .ifs c a b, .If e x y _ => ckE k c e && !isIf e && ckSs k a x && ckSs k b y
  | .for t (.range1 c) b, .For tg (.Call (.Name r _) [e] [] _) body [] _ => ckTg k t tg && r == ("range" : PySem.Str) && k.glob r && k.blt.contains r && ckE k c e && ckSs k b body
  | .for t (.range2 c d) b, .For tg (.Call (.Name r _) [e, f] [] _) body [] _ => ckTg k t tg && r == ("range" : PySem.Str) && k.glob r && k.blt.contains r && ckE k c e && ckE k d f && ckSs k b body
  | .for t (.enum c) b, .For (.Tuple es kk tp) (.Call (.Name r _) [e] [] _) body [] _ => ckTg k t (.Tuple es kk tp) && r == ("enumerate" : PySem.Str) && k.glob r && k.blt.contains r && ckE k c e && ckSs k b body
  | .for t (.val c) b, .For tg e body [] _ => ckTg k t tg && ckE k c e && !isSetE e && ckSs k b body
  | .whl c b, .While e body [] _ => ckE k c e && !isIf e && ckSs k b body
  | .rai c n es, .Raise (some (.Call (.Name x _) (e :: xs) [] _)) none _ => k.ev.isNone && (match k.md.exc c with | some (y, ns) => y == x && ns.length == n && !ns.isEmpty | none => false) && k.glob x && ckEs k es (e :: xs)
  | .tri b cs (some i) u, .Try body [.ExceptHandler (some (.Name x _)) (some n) (s0 :: su) _] [] [] _ => k.ev.isNone && k.lk n == some .local && k.slot i n && k.glob x && csOk k.md x cs && ckSs k b body && ckSs { k with ev := some (some (i, n)) } u (s0 :: su) && coolSs u
  | .tri b cs none u, .Try body [.ExceptHandler (some (.Name x _)) none (s0 :: su) _] [] [] _ => k.ev.isNone && k.glob x && csOk k.md x cs && ckSs k b body && ckSs { k with ev := some none } u (s0 :: su) && coolSs u
  | _, _ => false
def ckSs (k : Ck) : CSs → List Stmt → Bool
  | .nil, [] => true
  | .cons c cs, s :: ss => ckS k c s && ckSs k cs ss
  | _, _ => false
end
section
variable {T : Tb} {C : CF} {k : Ck} {X : Cx} {W : WX} {Wf : Nat}
theorem ck_noComp {c : CE} {e : Expr} (h : ckE k c e = true) : noComp e = true := by
  cases e <;> first | rfl | (cases c <;> simp [ckE] at h)
theorem sw_none {e : Expr} {t : Option Expr} {l : Nat} {env : Env} (h : noComp e = true) : swapsWith e t l env = pure false := by
  cases e <;> first | rfl | (simp [noComp] at h)
theorem ck_fold {c : CE} {e : Expr} {env : Env} (h : ckE k c e = true) : ∀ x, foldedSetIterable e env x = pure x := by
  intro x
  cases e <;> first | rfl | (cases c <;> simp [ckE] at h)
theorem swapOk_eq {x y : PySem.Str} {px py pt pt2 : Pos} {kt k2 : Nat} {e f : Expr} {env : Env} (hs : env.scope = k.sc) (hk : k.sc.kind = .function) (h : swapOk k x y px py e f = true) :
    swappedStores [.Tuple [.Name x px, .Name y py] kt pt] (.Tuple [e, f] k2 pt2) env = pure (some [x, y]) := by
  unfold swapOk Ck.lk at h
  simp only [Bool.and_eq_true, beq_iff_eq, Bool.not_eq_true'] at h
  obtain ⟨⟨⟨⟨⟨⟨⟨h1, h2⟩, h3⟩, h4⟩, h5⟩, h6⟩, h7⟩, h8⟩ := h
  have kx : env.kindOf x = some .local := by show env.scope.names.lookup x = _; rw [hs]; exact h1
  have ky : env.kindOf y = some .local := by show env.scope.names.lookup y = _; rw [hs]; exact h2
  have bk : env.blockKind = .function := by
    unfold Env.blockKind
    rw [hs, hk]
    rfl
  have ne : x ≠ y := by simpa using h4
  have h7' : (foldedForSure 8 e && foldedForSure 8 f) = false := by simpa using h7
  have h8' : (constantsAlone 8 e && constantsAlone 8 f) = false := by simpa using h8
  unfold swappedStores
  simp only [bk, List.length_cons, List.length_nil, Expr.pos, List.head?_cons, Option.map_some, Option.getD_some, List.all_cons, List.all_nil, Bool.and_true]
  rw [if_neg (by decide)]
  rw [if_neg (show ¬ ([e, f].any _ = true) from fun z => by
    simp only [List.any_cons, List.any_nil, Bool.or_false, Bool.or_eq_true] at z
    rcases z with z | z
    · cases e <;> first | (exact Bool.false_ne_true z) | (simp [isStar] at h5)
    · cases f <;> first | (exact Bool.false_ne_true z) | (simp [isStar] at h6))]
  rw [h7', h8']
  simp [kx, ky, h3, ne, Ne.symm ne, List.eraseDups_cons]
theorem pgs_slots (G : Gd T C k X W) : ∀ {is : List Nat} {es : List Expr}, ckTs k is es = true → PGs X es (gSlots is) ∧ (assignEach es X.env).length = is.length ∧ (assignEach es X.env).findIdx? (·.1) = none
  | [], [], _ => ⟨pgs_nil, rfl, rfl⟩
  | i :: is, .Name x p :: es, h => by
    simp only [ckTs, Bool.and_eq_true] at h
    obtain ⟨h1, h2, h3⟩ := pgs_slots G h.2
    obtain ⟨n1, n2⟩ := G.locl h.1
    refine ⟨pgs_cons (pg_name (by rw [G.N]; exact G.nd) n1 n2 (.inl (G.fnT x))) h1 rfl, by show (assignEach es X.env).length + 1 = _; rw [h2] <;> rfl, ?_⟩
    show List.findIdx? _ ((false, _) :: assignEach es X.env) = none
    rw [List.findIdx?_cons, h3]
    rfl
theorem pg_tg (G : Gd T C k X W) (hk : k.ev = none) : ∀ {t : Tg} {e : Expr}, ckTg k t e = true → ∃ gt, PG X e gt ∧ TgOk T t gt := by
  intro t e h
  cases t with
  | name i =>
    cases e <;> try (simp [ckTg] at h; done)
    simp only [ckTg] at h
    obtain ⟨n1, n2⟩ := G.locl h
    exact ⟨_, pg_name (by rw [G.N]; exact G.nd) n1 n2 (.inl (G.fnT _)), tg_name⟩
  | tup is =>
    cases e <;> try (simp [ckTg] at h; done)
    simp only [ckTg] at h
    obtain ⟨h1, h2, h3⟩ := pgs_slots G h
    exact ⟨_, pg_tup (G.calm hk) h1 h2 h3, tg_tup G.K⟩
theorem sndS_pass (G : Gd T C k X W) : ∀ st : Stmt, ckS k (.pass) st = true → PS X st (tS T C Wf W (.pass)) := by
  intro st h
  cases st <;> first | exact ss_pass | (simp [ckS] at h)
theorem sndS_brk (G : Gd T C k X W) : ∀ st : Stmt, ckS k (.brk) st = true → PS X st (tS T C Wf W (.brk)) := by
  intro st h
  cases st <;> first | exact ss_brk | (simp [ckS] at h)
theorem sndS_cont (G : Gd T C k X W) : ∀ st : Stmt, ckS k (.cont) st = true → PS X st (tS T C Wf W (.cont)) := by
  intro st h
  cases st <;> first | exact ss_cont | (simp [ckS] at h)
theorem sndS_ret_c (G : Gd T C k X W) {c : CE} : ∀ st : Stmt, ckS k (.ret c) st = true → PS X st (tS T C Wf W (.ret c)) := by
  intro st h
  cases st <;> try (simp [ckS] at h; done)
  rename_i v p
  cases v with
  | none => simp [ckS] at h
  | some e => simp only [ckS] at h; exact ss_ret (sndE G c e h).pe
theorem sndS_retN (G : Gd T C k X W) : ∀ st : Stmt, ckS k (.retN) st = true → PS X st (tS T C Wf W (.retN)) := by
  intro st h
  cases st <;> try (simp [ckS] at h; done)
  rename_i v p
  cases v with
  | none => exact ss_retN
  | some e => simp [ckS] at h
theorem sndS_expr_c (G : Gd T C k X W) {c : CE} : ∀ st : Stmt, ckS k (.expr c) st = true → PS X st (tS T C Wf W (.expr c)) := by
  intro st h
  cases st <;> try (simp [ckS] at h; done)
  simp only [ckS] at h
  exact ss_expr (sndE G c _ h).pe (sw_none (ck_noComp h))
theorem sndS_app_i_c (G : Gd T C k X W) {i : Nat} {c : CE} : ∀ st : Stmt, ckS k (.app i c) st = true → PS X st (tS T C Wf W (.app i c)) := by
  intro st h
  cases st <;> try (simp [ckS] at h; done)
  rename_i e p
  cases e <;> try (simp [ckS] at h; done)
  rename_i f as ks p2
  cases f <;> try (simp [ckS] at h; done)
  rename_i o m p1
  cases o <;> try (simp [ckS] at h; done)
  rename_i x px
  match as, ks, h with
  | [e], [], h =>
    simp only [ckS, Bool.and_eq_true, beq_iff_eq] at h
    obtain ⟨⟨⟨h1, rfl⟩, h3⟩, h4⟩ := h
    have hv := G.slot (p := px) h1
    have hs := ck_star (es := []) (env := X.env) h3
    have pa : PA X [e] (tEs T C W (.cons c .nil)) := snd_cons (sndE G c e h3).pe snd_nil hs
    have hline : (p1.endLine == p2.line) = true := by rw [h4]; exact beq_self_eq_true _
    refine ss_app G.K hv (sndE G c e h3).pe hs (pe_bm PySem.F.plainAttrs_list PySem.F.slot_list_append PySem.F.type_list_append mt_append hv pa rfl ?_ hline hs rfl) (sw_none rfl)
    rw [hs]
    rfl
  | [], _, h => simp [ckS] at h
  | _ :: _ :: _, _, h => simp [ckS] at h
  | [_], _ :: _, h => simp [ckS] at h
theorem sndS_pop_i (G : Gd T C k X W) {i : Nat} : ∀ st : Stmt, ckS k (.pop i) st = true → PS X st (tS T C Wf W (.pop i)) := by
  intro st h
  cases st <;> try (simp [ckS] at h; done)
  rename_i e p
  cases e <;> try (simp [ckS] at h; done)
  rename_i f as ks p2
  cases f <;> try (simp [ckS] at h; done)
  rename_i o m p1
  cases o <;> try (simp [ckS] at h; done)
  rename_i x px
  match as, ks, h with
  | [], [], h =>
    simp only [ckS, Bool.and_eq_true, beq_iff_eq] at h
    obtain ⟨⟨h1, rfl⟩, h4⟩ := h
    have hline : (p1.endLine == p2.line) = true := by rw [h4]; exact beq_self_eq_true _
    exact ss_pop G.K (pe_bm0 PySem.F.plainAttrs_list PySem.F.slot_list_pop PySem.F.type_list_pop mt_pop (G.slot (p := px) h1) rfl hline) (sw_none rfl)
  | _ :: _, _, h => simp [ckS] at h
  | [], _ :: _, h => simp [ckS] at h
theorem inv_asg1 {i : Nat} {c : CE} {st : Stmt} (h : ckS k (.asg (.name i) c) st = true) : ∃ x px e p, st = .Assign [.Name x px] e p ∧ k.locl i x = true ∧ ckE k c e = true := by
  unfold ckS at h
  split at h <;> first | (exact absurd h Bool.false_ne_true) | skip
  all_goals try (rename_i he; cases he; done)
  rename_i he
  cases he
  rw [Bool.and_eq_true] at h
  exact ⟨_, _, _, _, rfl, h.1, h.2⟩
theorem sndS_asg_name_i_c (G : Gd T C k X W) {i : Nat} {c : CE} : ∀ st : Stmt, ckS k (.asg (.name i) c) st = true → PS X st (tS T C Wf W (.asg (.name i) c)) := by
  intro st h
  obtain ⟨x, px, e, p, rfl, h1, h2⟩ := inv_asg1 h
  obtain ⟨n1, n2⟩ := G.locl h1
  exact ss_set (by rw [G.N]; exact G.nd) n1 n2 (G.fnT x) (sndE G c e h2).pe (sw_none (ck_noComp h2))
theorem inv_asg2 {is : List Nat} {c : CE} {st : Stmt} (h : ckS k (.asg (.tup is) c) st = true) : ∃ ts kt pt e p, st = .Assign [.Tuple ts kt pt] e p ∧ ckTs k is ts = true ∧ ckE k c e = true ∧ (isTupE e = false ∨ allFold e = true) := by
  unfold ckS at h
  split at h <;> first | (exact absurd h Bool.false_ne_true) | skip
  all_goals try (rename_i he; cases he; done)
  rename_i he
  cases he
  simp only [Bool.and_eq_true, Bool.or_eq_true, Bool.not_eq_true'] at h
  exact ⟨_, _, _, _, _, rfl, h.1.1, h.1.2, h.2⟩
theorem sw_fold {ts : List Expr} {kt : Nat} {pt : Pos} {e : Expr} {env : Env} (h : isTupE e = false ∨ allFold e = true) : swappedStores [.Tuple ts kt pt] e env = pure none := by
  rcases h with h | h
  · cases e <;> first | rfl | (simp [isTupE] at h)
  · cases e <;> try (simp [allFold] at h; done)
    rename_i es k2 p2
    have h : es.all (foldedForSure 8) = true := h
    unfold swappedStores
    simp only
    split
    · rfl
    · split
      · rfl
      · split
        · rfl
        · first | rfl | rw [if_pos h]
theorem sndS_asg_tup_is_c (G : Gd T C k X W) (hk : k.ev = none) {is : List Nat} {c : CE} : ∀ st : Stmt, ckS k (.asg (.tup is) c) st = true → PS X st (tS T C Wf W (.asg (.tup is) c)) := by
  intro st h
  obtain ⟨ts, kt, pt, e, p, rfl, h1, h2, h3⟩ := inv_asg2 h
  obtain ⟨g1, g2, g3⟩ := pgs_slots G h1
  refine ss_unp G.K (sndE G c e h2).pe (pg_tup (G.calm hk) g1 g2 g3) (by rw [swapsWithSole]; exact sw_none (ck_noComp h2)) (sw_fold h3) rfl
theorem inv_par {i j : Nat} {a b : CE} {st : Stmt} (h : ckS k (.par i j a b) st = true) : ∃ x px y py kt pt e f k2 pt2 p, st = .Assign [.Tuple [.Name x px, .Name y py] kt pt] (.Tuple [e, f] k2 pt2) p ∧
    (i == j) = false ∧ k.locl i x = true ∧ k.locl j y = true ∧ swapOk k x y px py e f = true ∧ ckE k a e = true ∧ ckE k b f = true := by
  unfold ckS at h
  split at h <;> first | (exact absurd h Bool.false_ne_true) | skip
  all_goals try (rename_i he; cases he; done)
  rename_i he
  cases he
  simp only [Bool.and_eq_true, Bool.not_eq_true'] at h
  exact ⟨_, _, _, _, _, _, _, _, _, _, _, rfl, h.1.1.1.1.1, h.1.1.1.1.2, h.1.1.1.2, h.1.1.2, h.1.2, h.2⟩
theorem sndS_par_i_j_a_b (G : Gd T C k X W) (hk : k.ev = none) {i j : Nat} {a b : CE} : ∀ st : Stmt, ckS k (.par i j a b) st = true → PS X st (tS T C Wf W (.par i j a b)) := by
  intro st h
  obtain ⟨x, px, y, py, kt, pt, e, f, k2, pt2, p, rfl, h1, h2, h3, h4, h5, h6⟩ := inv_par h
  obtain ⟨n1, n2⟩ := G.locl h2
  obtain ⟨m1, m2⟩ := G.locl h3
  have h4' := h4
  unfold swapOk Ck.lk at h4'
  simp only [Bool.and_eq_true, beq_iff_eq] at h4'
  exact ss_par (G.calm hk) (by rw [G.N]; exact G.nd) n1 m1 (by simpa using h1) (by rw [G.sc]; exact h4'.1.1.1.1.1.1.1) (by rw [G.sc]; exact h4'.1.1.1.1.1.1.2)
    (snd_cons (sndE G a e h5).pe (snd_cons (sndE G b f h6).pe snd_nil (ck_star h6)) (ck_star h5)) (swapOk_eq G.sc G.fk h4) (by rw [swapsWithSole]; exact sw_none rfl)
theorem sndS_aug_i_op_c (G : Gd T C k X W) {i : Nat} {op : BOp} {c : CE} : ∀ st : Stmt, ckS k (.aug i op c) st = true → PS X st (tS T C Wf W (.aug i op c)) := by
  intro st h
  cases st <;> try (simp [ckS] at h; done)
  rename_i t o e p
  cases t <;> try (simp [ckS] at h; done)
  simp only [ckS, Bool.and_eq_true, beq_iff_eq] at h
  obtain ⟨⟨h1, rfl⟩, h3⟩ := h
  obtain ⟨n1, n2⟩ := G.locl h1
  exact ss_aug (by rw [G.N]; exact G.nd) n1 n2 (G.fnT _) (sndE G c e h3).pe
theorem swap3_eq {x y z : PySem.Str} {px py pz pt pt2 : Pos} {kt k2 : Nat} {e f g : Expr} {env : Env} (hs : env.scope = k.sc) (hk : k.sc.kind = .function) (h : swap3 k x y z px py pz e f g = true) :
    swappedStores [.Tuple [.Name x px, .Name y py, .Name z pz] kt pt] (.Tuple [e, f, g] k2 pt2) env = pure (some [x, y, z]) := by
  unfold swap3 Ck.lk at h
  simp only [Bool.and_eq_true, beq_iff_eq, Bool.not_eq_true'] at h
  obtain ⟨⟨⟨⟨⟨⟨⟨⟨⟨⟨⟨⟨h1, h2⟩, h3⟩, l1⟩, l2⟩, n1⟩, n2⟩, n3⟩, s1⟩, s2⟩, s3⟩, h7⟩, h8⟩ := h
  have kx : env.kindOf x = some .local := by show env.scope.names.lookup x = _; rw [hs]; exact h1
  have ky : env.kindOf y = some .local := by show env.scope.names.lookup y = _; rw [hs]; exact h2
  have kz : env.kindOf z = some .local := by show env.scope.names.lookup z = _; rw [hs]; exact h3
  have bk : env.blockKind = .function := by
    unfold Env.blockKind
    rw [hs, hk]
    rfl
  have e1 : x ≠ y := by simpa using n1
  have e2 : x ≠ z := by simpa using n2
  have e3 : y ≠ z := by simpa using n3
  unfold swappedStores
  simp only [bk, List.length_cons, List.length_nil, Expr.pos, List.head?_cons, Option.map_some, Option.getD_some]
  rw [if_neg (by decide)]
  rw [if_neg (show ¬ ([e, f, g].any _ = true) from fun w => by
    simp only [List.any_cons, List.any_nil, Bool.or_false, Bool.or_eq_true] at w
    rcases w with w | w | w
    · cases e <;> first | (exact Bool.false_ne_true w) | (simp [isStar] at s1)
    · cases f <;> first | (exact Bool.false_ne_true w) | (simp [isStar] at s2)
    · cases g <;> first | (exact Bool.false_ne_true w) | (simp [isStar] at s3))]
  rw [h7, h8]
  simp [kx, ky, kz, l1, l2, e1, e2, e3, Ne.symm e1, Ne.symm e2, Ne.symm e3, List.eraseDups_cons]
theorem inv_par3 {i j l : Nat} {a b c : CE} {st : Stmt} (h : ckS k (.par3 i j l a b c) st = true) : ∃ x px y py z pz kt pt e f g k2 pt2 p, st = .Assign [.Tuple [.Name x px, .Name y py, .Name z pz] kt pt] (.Tuple [e, f, g] k2 pt2) p ∧
    i ≠ j ∧ i ≠ l ∧ j ≠ l ∧ k.locl i x = true ∧ k.locl j y = true ∧ k.locl l z = true ∧ swap3 k x y z px py pz e f g = true ∧ ckE k a e = true ∧ ckE k b f = true ∧ ckE k c g = true := by
  unfold ckS at h
  split at h <;> first | (exact absurd h Bool.false_ne_true) | skip
  all_goals try (rename_i he; cases he; done)
  rename_i he
  cases he
  simp only [Bool.and_eq_true, Bool.not_eq_true', beq_eq_false_iff_ne, ne_eq] at h
  obtain ⟨⟨⟨⟨⟨⟨⟨⟨⟨h1, h2⟩, h3⟩, h4⟩, h5⟩, h6⟩, h7⟩, h8⟩, h9⟩, h0⟩ := h
  exact ⟨_, _, _, _, _, _, _, _, _, _, _, _, _, _, rfl, h1, h2, h3, h4, h5, h6, h7, h8, h9, h0⟩
theorem sndS_par3 (G : Gd T C k X W) (hk : k.ev = none) {i j l : Nat} {a b c : CE} : ∀ st : Stmt, ckS k (.par3 i j l a b c) st = true → PS X st (tS T C Wf W (.par3 i j l a b c)) := by
  intro st h
  obtain ⟨x, px, y, py, z, pz, kt, pt, e, f, g, k2, pt2, p, rfl, n1, n2, n3, h2, h3, h4, h5, h6, h7, h8⟩ := inv_par3 h
  obtain ⟨a1, a2⟩ := G.locl h2
  obtain ⟨b1, b2⟩ := G.locl h3
  obtain ⟨c1, c2⟩ := G.locl h4
  have h5' := h5
  unfold swap3 Ck.lk at h5'
  simp only [Bool.and_eq_true, beq_iff_eq] at h5'
  obtain ⟨⟨⟨⟨⟨⟨⟨⟨⟨⟨⟨⟨q1, q2⟩, q3⟩, _⟩, _⟩, _⟩, _⟩, _⟩, _⟩, _⟩, _⟩, _⟩, _⟩ := h5'
  exact ss_par3 (G.calm hk) (by rw [G.N]; exact G.nd) a1 b1 c1 n1 n2 n3 (by rw [G.sc]; exact q1) (by rw [G.sc]; exact q2) (by rw [G.sc]; exact q3)
    (snd_cons (sndE G a e h6).pe (snd_cons (sndE G b f h7).pe (snd_cons (sndE G c g h8).pe snd_nil (ck_star h8)) (ck_star h7)) (ck_star h6)) (swap3_eq G.sc G.fk h5) (by rw [swapsWithSole]; exact sw_none rfl)
theorem inv_popA {i j : Nat} {st : Stmt} (h : ckS k (.popA i j) st = true) : ∃ x px y py p1 p2 p, st = .Assign [.Name x px] (.Call (.Attribute (.Name y py) "pop" p1) [] [] p2) p ∧ k.locl i x = true ∧ k.slot j y = true ∧ (p1.endLine == p2.line) = true := by
  unfold ckS at h
  split at h <;> first | (exact absurd h Bool.false_ne_true) | skip
  all_goals try (rename_i he; cases he; done)
  rename_i he
  cases he
  simp only [Bool.and_eq_true, beq_iff_eq] at h
  obtain ⟨⟨⟨h1, h2⟩, rfl⟩, h3⟩ := h
  exact ⟨_, _, _, _, _, _, _, rfl, h1, h2, by rw [h3]; exact beq_self_eq_true _⟩
theorem sndS_popA (G : Gd T C k X W) {i j : Nat} : ∀ st : Stmt, ckS k (.popA i j) st = true → PS X st (tS T C Wf W (.popA i j)) := by
  intro st h
  obtain ⟨x, px, y, py, p1, p2, p, rfl, h1, h2, h3⟩ := inv_popA h
  obtain ⟨n1, n2⟩ := G.locl h1
  exact ss_popA (by rw [G.N]; exact G.nd) n1 n2 (G.fnT x) G.K (pe_bm0 PySem.F.plainAttrs_list PySem.F.slot_list_pop PySem.F.type_list_pop mt_pop (G.slot (p := py) h2) rfl h3) (sw_none rfl)
theorem inv_appL {i : Nat} {c : CE} {st : Stmt} (h : ckS k (.appL i c) st = true) : ∃ x px j q1 q2 q3 ps p1 e p2 p, st = .Expr (.Call (.Attribute (.Subscript (.Name x px) (.UnaryOp .USub (.Constant (.int 1) j q1) q2) ps) "append" p1) [e] [] p2) p ∧ q3 = q1 ∧ k.slot i x = true ∧ ckE k c e = true ∧ (p1.endLine == p2.line) = true := by
  unfold ckS at h
  split at h <;> first | (exact absurd h Bool.false_ne_true) | skip
  all_goals try (rename_i he; cases he; done)
  rename_i he
  cases he
  simp only [Bool.and_eq_true, beq_iff_eq] at h
  obtain ⟨⟨⟨⟨h1, h2⟩, rfl⟩, h3⟩, h4⟩ := h
  unfold isM1 at h2
  split at h2
  · exact ⟨_, _, _, _, _, _, _, _, _, _, _, rfl, rfl, h1, h3, by rw [h4]; exact beq_self_eq_true _⟩
  · cases h2
theorem sndS_appL (G : Gd T C k X W) {i : Nat} {c : CE} : ∀ st : Stmt, ckS k (.appL i c) st = true → PS X st (tS T C Wf W (.appL i c)) := by
  intro st h
  obtain ⟨x, px, j, q1, q2, _, ps, p1, e, p2, p, rfl, _, h1, h2, h3⟩ := inv_appL h
  have hs := ck_star (es := []) (env := X.env) h2
  have pa : PA X [e] (tEs T C W (.cons c .nil)) := snd_cons (sndE G c e h2).pe snd_nil hs
  have hm1 : PE X (.UnaryOp .USub (.Constant (.int 1) j q1) q2) (tE T C W (.neg (.int 1))) := (sndE G (.neg (.int 1)) _ (by simp [ckE])).pe
  have hb := pe_ix (pos := ps) ix_seq (G.slot (p := px) h1) hm1 (fun _ _ => rfl)
  refine ss_appL (g := .Name x px) (ix := .UnaryOp .USub (.Constant (.int 1) j q1) q2) (ps := ps) G.K (sndE G c e h2).pe (pe_bm PySem.F.plainAttrs_list PySem.F.slot_list_append PySem.F.type_list_append mt_append hb pa rfl ?_ h3 hs rfl) (sw_none rfl)
  rw [hs]
  rfl
theorem inv_enum {t : Tg} {c : CE} {b : CSs} {st : Stmt} (h : ckS k (.for t (.enum c) b) st = true) : ∃ es kk tp r pr e pe body p, st = .For (.Tuple es kk tp) (.Call (.Name r pr) [e] [] pe) body [] p ∧
    ckTg k t (.Tuple es kk tp) = true ∧ r = ("enumerate" : PySem.Str) ∧ k.glob r = true ∧ k.blt.contains r = true ∧ ckE k c e = true ∧ ckSs k b body = true := by
  unfold ckS at h
  split at h <;> first | (exact absurd h Bool.false_ne_true) | skip
  all_goals try (rename_i he; cases he; done)
  rename_i he
  cases he
  simp only [Bool.and_eq_true, beq_iff_eq] at h
  exact ⟨_, _, _, _, _, _, _, _, _, rfl, h.1.1.1.1.1, h.1.1.1.1.2, h.1.1.1.2, h.1.1.2, h.1.2, h.2⟩
theorem sndS_enum (G : Gd T C k X W) (hk : k.ev = none) {t : Tg} {c : CE} {b : CSs} (Hb : ∀ sts, ckSs k b sts = true → PSs X sts (tSs T C Wf W b)) : ∀ st : Stmt, ckS k (.for t (.enum c) b) st = true → PS X st (tS T C Wf W (.for t (.enum c) b)) := by
  intro st h
  obtain ⟨es, kk, tp, r, pr, e, pe, body, p, rfl, h1, rfl, h2, h3, h4, h5⟩ := inv_enum h
  obtain ⟨gt, pg, ok⟩ := pg_tg G hk h1
  have hs := ck_star (es := []) (env := X.env) h4
  exact ss_enum G.K G.pass (G.calm hk) (G.glob h2).1 (G.blt _ h3) pg ok (snd_cons (sndE G c e h4).pe snd_nil hs) hs (Hb body h5)
theorem inv_setI {i : Nat} {ix c : CE} {st : Stmt} (h : ckS k (.setI i ix c) st = true) : ∃ x px j pj e p, st = .Assign [.Subscript (.Name x px) j pj] e p ∧ k.slot i x = true ∧ ckE k ix j = true ∧ noSl j = true ∧ ckE k c e = true := by
  unfold ckS at h
  split at h <;> first | (exact absurd h Bool.false_ne_true) | skip
  all_goals try (rename_i he; cases he; done)
  rename_i he
  cases he
  simp only [Bool.and_eq_true] at h
  exact ⟨_, _, _, _, _, _, rfl, h.1.1.1, h.1.1.2, h.1.2, h.2⟩
theorem sndS_setI_i_ix_e (G : Gd T C k X W) {i : Nat} {ix : CE} {e : CE} : ∀ st : Stmt, ckS k (.setI i ix e) st = true → PS X st (tS T C Wf W (.setI i ix e)) := by
  intro st h
  obtain ⟨x, px, j, pj, f, p, rfl, h1, h2, h3, h4⟩ := inv_setI h
  have ha : ∀ v, PySem.assign (.Subscript (.Name x px) j pj) X.env v = (do
      let ov ← holding [v] (eval (.Name x px) X.env)
      let iv ← holding [v, ov] (eval j X.env)
      standAt pj
      holding [v, ov, iv] (setItem ov iv v)
      release [v, ov, iv] []) := fun v => by cases j <;> first | rfl | (simp [noSl] at h3)
  exact ss_setI G.K (sndE G e f h4).pe (pg_sub (G.slot h1) (sndE G ix j h2).pe set_list ha) (by rw [swapsWithSole]; exact sw_none (ck_noComp h4)) rfl rfl
theorem sndS_ifs_c_a_b (G : Gd T C k X W) {c : CE} {a : CSs} {b : CSs} (Ha : ∀ sts, ckSs k a sts = true → PSs X sts (tSs T C Wf W a)) (Hb : ∀ sts, ckSs k b sts = true → PSs X sts (tSs T C Wf W b)) : ∀ st : Stmt, ckS k (.ifs c a b) st = true → PS X st (tS T C Wf W (.ifs c a b)) := by
  intro st h
  cases st <;> try (simp [ckS] at h; done)
  simp only [ckS, Bool.and_eq_true, Bool.not_eq_true'] at h
  exact ss_if ((sndE G c _ h.1.1.1).pt h.1.1.2) (Ha _ h.1.2) (Hb _ h.2)
theorem inv_for1 {t : Tg} {c : CE} {b : CSs} {st : Stmt} (h : ckS k (.for t (.range1 c) b) st = true) : ∃ tg r pr e pe body p, st = .For tg (.Call (.Name r pr) [e] [] pe) body [] p ∧
    ckTg k t tg = true ∧ r = ("range" : PySem.Str) ∧ k.glob r = true ∧ k.blt.contains r = true ∧ ckE k c e = true ∧ ckSs k b body = true := by
  unfold ckS at h
  split at h <;> first | (exact absurd h Bool.false_ne_true) | skip
  all_goals try (rename_i he; cases he; done)
  rename_i he
  cases he
  simp only [Bool.and_eq_true, beq_iff_eq] at h
  exact ⟨_, _, _, _, _, _, _, rfl, h.1.1.1.1.1, h.1.1.1.1.2, h.1.1.1.2, h.1.1.2, h.1.2, h.2⟩
theorem sndS_for_t_range1_c_b (G : Gd T C k X W) (hk : k.ev = none) {t : Tg} {c : CE} {b : CSs} (Hb : ∀ sts, ckSs k b sts = true → PSs X sts (tSs T C Wf W b)) : ∀ st : Stmt, ckS k (.for t (.range1 c) b) st = true → PS X st (tS T C Wf W (.for t (.range1 c) b)) := by
  intro st h
  obtain ⟨tg, r, pr, e, pe, body, p, rfl, h1, rfl, h2, h3, h4, h5⟩ := inv_for1 h
  obtain ⟨gt, pg, ok⟩ := pg_tg G hk h1
  have hs := ck_star (es := []) (env := X.env) h4
  exact ss_range1 G.pass (G.calm hk) (G.glob h2).1 (G.blt _ h3) pg ok (snd_cons (sndE G c e h4).pe snd_nil hs) hs (Hb body h5)
theorem inv_for2 {t : Tg} {c d : CE} {b : CSs} {st : Stmt} (h : ckS k (.for t (.range2 c d) b) st = true) : ∃ tg r pr e f pe body p, st = .For tg (.Call (.Name r pr) [e, f] [] pe) body [] p ∧
    ckTg k t tg = true ∧ r = ("range" : PySem.Str) ∧ k.glob r = true ∧ k.blt.contains r = true ∧ ckE k c e = true ∧ ckE k d f = true ∧ ckSs k b body = true := by
  unfold ckS at h
  split at h <;> first | (exact absurd h Bool.false_ne_true) | skip
  all_goals try (rename_i he; cases he; done)
  rename_i he
  cases he
  simp only [Bool.and_eq_true, beq_iff_eq] at h
  exact ⟨_, _, _, _, _, _, _, _, rfl, h.1.1.1.1.1.1, h.1.1.1.1.1.2, h.1.1.1.1.2, h.1.1.1.2, h.1.1.2, h.1.2, h.2⟩
theorem sndS_for_t_range2_c_d_b (G : Gd T C k X W) (hk : k.ev = none) {t : Tg} {c d : CE} {b : CSs} (Hb : ∀ sts, ckSs k b sts = true → PSs X sts (tSs T C Wf W b)) : ∀ st : Stmt, ckS k (.for t (.range2 c d) b) st = true → PS X st (tS T C Wf W (.for t (.range2 c d) b)) := by
  intro st h
  obtain ⟨tg, r, pr, e, f, pe, body, p, rfl, h1, rfl, h2, h3, h4, h5, h6⟩ := inv_for2 h
  obtain ⟨gt, pg, ok⟩ := pg_tg G hk h1
  have hs2 := ck_star (es := []) (env := X.env) h5
  have hs := ck_star (es := [f]) (env := X.env) h4
  have hs' : starEach [e, f] X.env = [(false, eval e X.env), (false, eval f X.env)] := by rw [hs, hs2] <;> rfl
  exact ss_range2 G.pass (G.calm hk) (G.glob h2).1 (G.blt _ h3) pg ok (snd_cons (sndE G c e h4).pe (snd_cons (sndE G d f h5).pe snd_nil hs2) hs) hs' hs2 (Hb body h6)
theorem inv_for3 {t : Tg} {c : CE} {b : CSs} {st : Stmt} (h : ckS k (.for t (.val c) b) st = true) : ∃ tg e body p, st = .For tg e body [] p ∧
    ckTg k t tg = true ∧ ckE k c e = true ∧ ckSs k b body = true := by
  unfold ckS at h
  split at h <;> first | (exact absurd h Bool.false_ne_true) | skip
  all_goals try (rename_i he; cases he; done)
  rename_i he
  cases he
  simp only [Bool.and_eq_true] at h
  exact ⟨_, _, _, _, rfl, h.1.1.1, h.1.1.2, h.2⟩
theorem sndS_for_t_val_c_b (G : Gd T C k X W) (hk : k.ev = none) {t : Tg} {c : CE} {b : CSs} (Hb : ∀ sts, ckSs k b sts = true → PSs X sts (tSs T C Wf W b)) : ∀ st : Stmt, ckS k (.for t (.val c) b) st = true → PS X st (tS T C Wf W (.for t (.val c) b)) := by
  intro st h
  obtain ⟨tg, e, body, p, rfl, h1, h2, h3⟩ := inv_for3 h
  obtain ⟨gt, pg, ok⟩ := pg_tg G hk h1
  exact ss_val G.K G.pass (G.calm hk) pg ok (sndE G c e h2).pe (Hb body h3) (ck_fold h2)
theorem sndS_whl_c_b (G : Gd T C k X W) {c : CE} {b : CSs} (Hb : ∀ sts, ckSs k b sts = true → PSs X sts (tSs T C Wf W b)) : ∀ st : Stmt, ckS k (.whl c b) st = true → PS X st (tS T C Wf W (.whl c b)) := by
  intro st h
  cases st <;> try (simp [ckS] at h; done)
  rename_i e body els p
  cases els <;> try (simp [ckS] at h; done)
  simp only [ckS, Bool.and_eq_true, Bool.not_eq_true'] at h
  exact ss_while G.pass ((sndE G c e h.1.1).pt h.1.2) (Hb body h.2)
/-- where a try's body runs -/
theorem Gd.tr (G : Gd T C k X W) (hk : k.ev = none) {W' : WX} {pn : List (Addr × Obj)} {xe : Value → Shared → Prop} (tk : Takes (X.tr pn xe) W') (pa : PassesOwn (model X.prog X.w) X.A X.env xe) : Gd T C k (X.tr pn xe) W' :=
  ⟨G.K, G.calm, G.cool, fun i x e => (by rw [hk] at e; cases e), G.frm, G.two, G.xt, G.units, tk, G.N, G.sc, G.fk, G.nd, G.fnT, pa, G.blt, G.gcd, G.str, G.num, G.calls⟩
/-- where its suite runs -/
theorem Gd.suite (G : Gd T C k X W) (hk : k.ev = none) {i : Nat} {n : PySem.Str} {a : Addr} {oe : Obj} {cls : Value} {d : Option Addr} {pn : List (Addr × Obj)} (hz : Zc cls d oe) (hf : ∃ vs, oe.data = .fields vs) :
    Gd (T.wx (some (a, cls, d))) noC { k with ev := some (some (i, n)) } (X.suite a ((a, oe) :: pn)) (fun _ _ _ _ => False) :=
  ⟨G.K, fun e => (nomatch e), fun e => (nomatch e), fun j x e => ⟨X, a, oe, cls, d, pn, rfl, hz, hf, rfl⟩, G.frm, fun e => (nomatch e), ⟨G.xt.at_, G.xt.cls, G.xt.sub, G.xt.refl⟩, G.units, takes0, G.N, G.sc, G.fk, G.nd, G.fnT, .never, G.blt, G.gcd, G.str, G.num, fun e => (nomatch e)⟩
theorem Gd.suite0 (G : Gd T C k X W) (hk : k.ev = none) {a : Addr} {oe : Obj} {pn : List (Addr × Obj)} :
    Gd T noC { k with ev := some none } (X.suite a ((a, oe) :: pn)) (fun _ _ _ _ => False) :=
  ⟨G.K, fun e => (nomatch e), fun e => (nomatch e), fun j x e => (nomatch e), G.frm, fun e => (nomatch e), ⟨G.xt.at_, G.xt.cls, G.xt.sub, G.xt.refl⟩, G.units, takes0, G.N, G.sc, G.fk, G.nd, G.fnT, .never, G.blt, G.gcd, G.str, G.num, fun e => (nomatch e)⟩
theorem inv_rai {c n : Nat} {es : CEs} {st : Stmt} (h : ckS k (.rai c n es) st = true) : ∃ x px e xs p p2 ns, st = .Raise (some (.Call (.Name x px) (e :: xs) [] p)) none p2 ∧ k.ev = none ∧ k.md.exc c = some (x, ns) ∧ ns.length = n ∧ ns ≠ [] ∧ k.glob x = true ∧ ckEs k es (e :: xs) = true := by
  unfold ckS at h
  split at h <;> first | (exact absurd h Bool.false_ne_true) | skip
  all_goals try (rename_i he; cases he; done)
  rename_i he
  cases he
  simp only [Bool.and_eq_true] at h
  obtain ⟨⟨⟨h1, h2⟩, h3⟩, h4⟩ := h
  split at h2
  · rename_i y ns e2
    simp only [Bool.and_eq_true, beq_iff_eq, Bool.not_eq_true'] at h2
    obtain ⟨⟨rfl, h5⟩, h6⟩ := h2
    exact ⟨_, _, _, _, _, _, ns, rfl, Option.isNone_iff_eq_none.mp h1, e2, h5, (fun e => by rw [e] at h6; cases h6), h3, h4⟩
  · cases h2
theorem sndS_rai (G : Gd T C k X W) {c n : Nat} {es : CEs} : ∀ st : Stmt, ckS k (.rai c n es) st = true → PS X st (tS T C Wf W (.rai c n es)) := by
  intro st h
  obtain ⟨x, px, e, xs, p, p2, ns, rfl, hk, h1, rfl, h3, h4, h5⟩ := inv_rai h
  obtain ⟨Cc, t1, t2, t3, t4⟩ := G.xt.at_ c x ns h1
  obtain ⟨fI, fd, xi⟩ := t4 h3
  have g := G.glob h4
  cases es with
  | nil => simp [ckEs] at h5
  | cons c1 cs =>
    have h6 := h5
    simp only [ckEs, Bool.and_eq_true] at h6
    exact ss_rai (k := 0) (G.calm hk) G.tk t1 t3 xi (G.two hk) g.1 t2 (sndEs G _ _ h5) g.2.1 (ck_star h6.1) (ck_plain h6.2)
theorem inv_tri {b u : CSs} {cs : List Nat} {i : Nat} {st : Stmt} (h : ckS k (.tri b cs (some i) u) st = true) : ∃ body x px n s0 su p' p, st = .Try body [.ExceptHandler (some (.Name x px)) (some n) (s0 :: su) p'] [] [] p ∧
    k.ev = none ∧ k.lk n = some .local ∧ k.slot i n = true ∧ k.glob x = true ∧ csOk k.md x cs = true ∧ ckSs k b body = true ∧ ckSs { k with ev := some (some (i, n)) } u (s0 :: su) = true ∧ coolSs u = true := by
  unfold ckS at h
  split at h <;> first | (exact absurd h Bool.false_ne_true) | skip
  all_goals try (rename_i he; cases he; done)
  rename_i he
  cases he
  simp only [Bool.and_eq_true, beq_iff_eq] at h
  obtain ⟨⟨⟨⟨⟨⟨⟨h1, h2⟩, h3⟩, h4⟩, h5⟩, h6⟩, h7⟩, h8⟩ := h
  exact ⟨_, _, _, _, _, _, _, _, rfl, Option.isNone_iff_eq_none.mp h1, h2, h3, h4, h5, h6, h7, h8⟩
theorem inv_tri0 {b u : CSs} {cs : List Nat} {st : Stmt} (h : ckS k (.tri b cs none u) st = true) : ∃ body x px s0 su p' p, st = .Try body [.ExceptHandler (some (.Name x px)) none (s0 :: su) p'] [] [] p ∧
    k.ev = none ∧ k.glob x = true ∧ csOk k.md x cs = true ∧ ckSs k b body = true ∧ ckSs { k with ev := some none } u (s0 :: su) = true ∧ coolSs u = true := by
  unfold ckS at h
  split at h <;> first | (exact absurd h Bool.false_ne_true) | skip
  all_goals try (rename_i he; cases he; done)
  rename_i he
  cases he
  simp only [Bool.and_eq_true, beq_iff_eq] at h
  obtain ⟨⟨⟨⟨⟨h1, h4⟩, h5⟩, h6⟩, h7⟩, h8⟩ := h
  exact ⟨_, _, _, _, _, _, _, rfl, Option.isNone_iff_eq_none.mp h1, h4, h5, h6, h7, h8⟩
theorem cool_no {c : CS} (hc : k.ev = none ∨ coolS c = true) (h : coolS c = false) : k.ev = none := hc.elim id fun q => by rw [h] at q; cases q
mutual
theorem sndS {T : Tb} {C : CF} {k : Ck} {X : Cx} {W : WX} (G : Gd T C k X W) : ∀ (c : CS) (st : Stmt), (k.ev = none ∨ coolS c = true) → ckS k c st = true → PS X st (tS T C Wf W c)
  | .pass, st, _, h => sndS_pass G st h
  | .brk, st, _, h => sndS_brk G st h
  | .cont, st, _, h => sndS_cont G st h
  | .ret c, st, _, h => sndS_ret_c G st h
  | .retN, st, _, h => sndS_retN G st h
  | .expr c, st, _, h => sndS_expr_c G st h
  | .app i c, st, _, h => sndS_app_i_c G st h
  | .asg (.name i) c, st, _, h => sndS_asg_name_i_c G st h
  | .asg (.tup is) c, st, hc, h => sndS_asg_tup_is_c G (cool_no hc rfl) st h
  | .par i j a b, st, hc, h => sndS_par_i_j_a_b G (cool_no hc rfl) st h
  | .par3 i j l a b c, st, hc, h => sndS_par3 G (cool_no hc rfl) st h
  | .popA i j, st, hc, h => sndS_popA G st h
  | .appL i e, st, hc, h => sndS_appL G st h
  | .aug i op c, st, _, h => sndS_aug_i_op_c G st h
  | .pop i, st, _, h => sndS_pop_i G st h
  | .setI i ix e, st, _, h => sndS_setI_i_ix_e G st h
  | .ifs c a b, st, hc, h => sndS_ifs_c_a_b G (fun sts => sndSs G a sts (hc.imp id fun q => by simp only [coolS, Bool.and_eq_true] at q; exact q.1)) (fun sts => sndSs G b sts (hc.imp id fun q => by simp only [coolS, Bool.and_eq_true] at q; exact q.2)) st h
  | .for t (.range1 c) b, st, hc, h => sndS_for_t_range1_c_b G (cool_no hc rfl) (fun sts => sndSs G b sts (.inl (cool_no hc rfl))) st h
  | .for t (.range2 c d) b, st, hc, h => sndS_for_t_range2_c_d_b G (cool_no hc rfl) (fun sts => sndSs G b sts (.inl (cool_no hc rfl))) st h
  | .for t (.val c) b, st, hc, h => sndS_for_t_val_c_b G (cool_no hc rfl) (fun sts => sndSs G b sts (.inl (cool_no hc rfl))) st h
  | .for t (.enum c) b, st, hc, h => sndS_enum G (cool_no hc rfl) (fun sts => sndSs G b sts (.inl (cool_no hc rfl))) st h
  | .whl c b, st, hc, h => sndS_whl_c_b G (fun sts => sndSs G b sts (.inl (cool_no hc rfl))) st h
  | .rai c n es, st, _, h => sndS_rai G st h
  | .tri b cs (some i) u, st, _, h => by
    obtain ⟨body, x, px, n, s0, su, p', p, rfl, hk, h2, h3, h4, h5, h6, h7, h8⟩ := inv_tri h
    obtain ⟨C2, m2, k2⟩ := G.xt.named h5
    have g := G.glob h4
    have hN : X.N[i]? = some n := by
      unfold Ck.slot at h3
      simp only [Bool.and_eq_true, beq_iff_eq] at h3
      rw [G.N]; exact h3.1.1.1
    refine ss_tri G.frm.1 G.frm.2 (by rw [G.N]; exact G.nd) hN (by show X.env.scope.names.lookup n = _; rw [G.sc]; exact h2) ⟨g.1, g.2.1, .inl m2⟩ G.tk (G.cool hk) (fun W' pn xe tk pa => sndSs (G.tr hk tk pa) b body (.inl hk) h6)
      (fun a oe cls d pn hz hf => sndSs (G.suite hk hz hf) u (s0 :: su) (.inr h8) h7) (fun c p e => ?_)
    obtain ⟨v, ns⟩ := p
    obtain ⟨_, _, _, _, e1, _⟩ := k2 c v ns e
    exact e1
  | .tri b cs none u, st, _, h => by
    obtain ⟨body, x, px, s0, su, p', p, rfl, hk, h4, h5, h6, h7, h8⟩ := inv_tri0 h
    obtain ⟨C2, m2, k2⟩ := G.xt.named h5
    have g := G.glob h4
    refine ss_tri0 G.frm.1 G.frm.2 ⟨g.1, g.2.1, .inl m2⟩ G.tk (fun W' pn xe tk pa => sndSs (G.tr hk tk pa) b body (.inl hk) h6)
      (fun a oe cls d pn hz hf => sndSs (G.suite0 hk) u (s0 :: su) (.inr h8) h7) (fun c p e => ?_)
    obtain ⟨v, ns⟩ := p
    obtain ⟨_, _, _, _, e1, _⟩ := k2 c v ns e
    exact e1
theorem sndSs {T : Tb} {C : CF} {k : Ck} {X : Cx} {W : WX} (G : Gd T C k X W) : ∀ (cs : CSs) (sts : List Stmt), (k.ev = none ∨ coolSs cs = true) → ckSs k cs sts = true → PSs X sts (tSs T C Wf W cs)
  | .nil, sts, _, h => by
    cases sts with
    | nil => exact sss_nil
    | cons _ _ => simp [ckSs] at h
  | .cons c cs, sts, hc, h => by
    cases sts with
    | nil => simp [ckSs] at h
    | cons s ss =>
      simp only [ckSs, Bool.and_eq_true] at h
      exact sss_cons (sndS G c s (hc.imp id fun q => by simp only [coolSs, Bool.and_eq_true] at q; exact q.1) h.1) (sndSs G cs ss (hc.imp id fun q => by simp only [coolSs, Bool.and_eq_true] at q; exact q.2) h.2)
end
end

/-! ### the defs -/
/-- the def f, named x, stands at fa as fd; the checker tells its text -/
def DefAt (Tbl : Nat → Option Fd) (M : Md) (K : PySem.W.Frag) (mg : PySem.Str → Option Value) (f : Nat) (x : PySem.Str) (fa : Addr) (fd : FuncData) (ps : List PySem.Str) : Prop :=
  ∃ (st : Stmt) (N : List PySem.Str) (body : CSs), mg x = some (.ref fa) ∧ Fun K x x st fa fd ∧ FnScope N ps (defScope st) ∧ (∀ us : List Value, us.length = ps.length → bindArgs fd ⟨us, []⟩ = pure (ps.zip us)) ∧
    Tbl f = some ⟨ps.length, N.length, body⟩ ∧ ckSs ⟨N, defScope st, M, none⟩ body (defBody st) = true
/-- what the text's top has left of the defs, and what the checker says of them -/
structure Top (T : Tb) (Tbl : Nat → Option Fd) (M : Md) (P : Program) (K : PySem.W.Frag) (mg : PySem.Str → Option Value) : Prop where
  hK : K = T.K
  hxo : T.xo = none
  xt : XTop T P K mg M
  hblt : ∀ x, M.blt.contains x = true → mg x = none
  hgcd : M.gcd = true → mg "gcd" = some (.builtin "math.gcd")
  hstr : ∀ x s, M.str x = some s → ∃ u, mg x = some u ∧ RelV (.str (sv s)) u
  hnum : ∀ x i, M.num x = some i → ∃ u, mg x = some u ∧ RelV (.int i) u
  defs : ∀ f x, M.fn f = some x → ∃ fa fd ps, DefAt Tbl M K mg f x fa fd ps
section
variable {T : Tb} {Tbl : Nat → Option Fd} {M : Md} {P : Program} {w : World} {K : PySem.W.Frag} {mg : PySem.Str → Option Value} {base : Heap} {Wf : Nat}
/-- at the end of a body: what the caller sees -/
def Bs.ends (b b' : Bs) : Bs := { b' with H0 := b.H0, so0 := b.so0, own := [] }
def Bs.entry (b : Bs) : Bs := { b with H0 := b.H, so0 := b.sown }
theorem ends_go {b b' : Bs} {s : S} {σ : St} {o : List Addr} (g : GoS b.entry b' o) (A : At T b' s σ) : Go b (b.ends b') o where
  adv := by
    have h0 : b'.H0 = b.H := g.h0
    have so : b'.so0 = b.sown := g.so
    refine ⟨fun a u h n => A.same a u (by rw [h0]; exact h) (by rw [so]; exact n), fun a u h => A.there a u (by rw [h0]; exact h), fun a h => A.nt a (by rw [h0]; exact h), fun a m => ?_, fun a m => ?_⟩
    · rcases List.mem_append.mp m with m | m
      · exact .inr (g.new a m)
      · exact absurd m List.not_mem_nil
    · rcases A.snew a m with z | z
      · exact .inl (by rw [← so]; exact z)
      · exact .inr (by rw [← h0]; exact z)
  pre := g.pre
  h0 := rfl
  so := rfl
  nd := g.nd
  no := g.no
  ox := g.ox
theorem ends_phi {b b' : Bs} : Same b'.Φ (b.ends b').Φ := hid_less fun a z => z.imp id fun z => List.mem_append_right _ ((List.mem_append.mp z).elim (fun q => absurd q List.not_mem_nil) id)
theorem ends_at {b b' : Bs} {s : S} {σ : St} (A : At T b' s σ) : AtC T (b.ends b') s.sto :=
  ⟨A.sto.mono ends_phi (List.prefix_refl _) fun _ _ _ q => q, (List.nodup_append.mp A.nd).2.1, fun a m => A.ox a (List.mem_append_right _ m), A.oxH, rfl⟩
theorem body_end {b : Bs} {fl : Fl} {Q : VK} {E : XK} (h : PostC T b fl.call Q E) : PostS T b.entry fl { nx := fun _ H' => Q .non H', rt := Q } (fun cls d _ H => E cls d H) := by
  cases fl with
  | next s' => exact fun σ' b' g A => h .non (b.ends b') [] (ends_go g A) (ends_at A) (.sc rfl .non)
  | brk s' => exact h.elim
  | cont s' => exact h.elim
  | ret k d sto =>
    intro v σ' b' o s' e g A r
    subst e
    exact h v (b.ends b') o (ends_go g A) (ends_at A) (r.mono ends_phi (List.prefix_refl _) fun _ _ _ q => q)
  | exc x s' => exact fun σ' c d b' g A r => h c d (b.ends b') (ends_go g A) (ends_at A) (r.mono ends_phi (List.prefix_refl _))
  | err => exact h
theorem entry_at {b : Bs} {sto : Sto} {ds : List BT.D} {vs : List V} (B : AtC T b sto) (l : RpL T b.ρ b.Φ ds vs) (n : Nat) : At T b.entry { env := (ds.map fun d => some (0, d)) ++ List.replicate n none, sto := sto } (vs.map some ++ List.replicate n none) := by
  have e : b.own = [] := B.own
  refine ⟨fun _ _ h _ => h, fun _ u h => ⟨u, h⟩, fun _ h => h, ?_, B.sto, ?_, fun a m => ?_, fun a m => .inl m, fun a m => ?_, B.oxH⟩
  · show RpE T b.ρ b.Φ b.H _ _ b.own
    rw [e]
    exact RpE.entry n l
  · show (b.own ++ b.sown).Nodup
    rw [e]; exact B.nd
  · have m : a ∈ b.own := m
    rw [e] at m; simp at m
  · have m : a ∈ b.own ++ b.sown := m
    rw [e] at m
    exact B.ox a m
theorem RpL_len {ρ : List Addr} {Φ : Hp} {ds : List BT.D} {vs : List V} (l : RpL T ρ Φ ds vs) : ds.length = vs.length := l.len
/-- every def keeps its promise, n deep -/
theorem all_ok (H : Top T Tbl M P K mg) : ∀ (n f : Nat) (x : PySem.Str) (fa : Addr) (fd : FuncData) (ps : List PySem.Str), DefAt Tbl M K mg f x fa fd ps → FnOk P w K mg base (L2.CX P w) (n + 2) fa fd ps (spC T (callF Tbl Wf n f))
  | 0, f, x, fa, fd, ps, _ => ⟨fun vs H Q E ⟨b, ds, sto, _, _, _, h⟩ => h.elim, fun A outer s H args us vs Q E hr e0 hb r ⟨b, ds, sto, _, _, _, h⟩ => h.elim⟩
  | n + 1, f, x, fa, fd, ps, ⟨st, N, body, h1, F, S, hb, ht, hc⟩ => by
    have hpl : ps.length ≤ N.length := by
      have := congrArg List.length S.pre
      rw [List.length_take] at this
      omega
    have hcall : ∀ {ds : List BT.D} {sto : Sto}, callF Tbl Wf (n + 1) f ds sto = if ds.length = ps.length then
        (evalSs (callF Tbl Wf n) Wf body { env := (ds.map fun d => some (0, d)) ++ List.replicate (N.length - ps.length) none, sto := sto }).call else .err := fun {ds sto} => by
      show (match Tbl f with | none => CR.err | some fd => _) = _
      rw [ht]
      simp only [hpl, and_true]
    refine F.okX S (fun vs H Q E ⟨b, ds, sto, _, _, l, h⟩ => ?_) (fun cdv A outer s Hh vs Q E hr ⟨b, ds, sto, eH, B, l, h⟩ => ?_)
    · rw [hcall] at h
      by_cases hl : ds.length = ps.length
      · rw [← l.len]; exact hl
      · rw [if_neg hl] at h; exact h.elim
    · rw [hcall] at h
      by_cases hl : ds.length = ps.length
      · rw [if_pos hl] at h
        have G : Gd T (callF Tbl Wf n) ⟨N, defScope st, M, none⟩ (cxOf (L2.CX P w) P w K mg base N x (defScope st) fa cdv A outer s Hh E) (fun cls d _ H => E cls d H) :=
          ⟨H.hK, fun _ => rfl, fun _ => H.hxo, fun _ _ e => (nomatch e), ⟨rfl, rfl⟩, fun _ => hr.mono (by omega), H.xt, by have := hr.un; show (A.deeper (envOfC x (defScope st) s.heap.objs.size fa cdv)).units + 200 < cLine; omega, takes_of rfl rfl rfl rfl, rfl, rfl, S.kind, S.nd, fun _ => rfl, passes_of rfl, H.hblt, H.hgcd, H.hstr, H.hnum, fun _ f' x' hx' => by
            obtain ⟨fa', fd', ps', d'⟩ := H.defs f' x' hx'
            obtain ⟨st', N', body', m1, F', S', b1, _, _⟩ := id d'
            exact ⟨fa', fd', ps', n + 2, all_ok H n f' x' fa' fd' ps' d', hr, m1, F'.kp, .all b1⟩⟩
        refine ⟨tSs T (callF Tbl Wf n) Wf (fun cls d _ H => E cls d H) body, sndSs G body _ (.inl rfl) hc, b.entry, _, eH, ?_, body_end h⟩
        have e := entry_at B l (N.length - ps.length)
        have hv : L2.start N vs = vs.map some ++ List.replicate (N.length - ps.length) none := by
          unfold L2.start
          rw [← l.len, hl]
        rw [hv]
        exact e
      · rw [if_neg hl] at h; exact h.elim
/-- the script, as the law takes it -/
theorem law_sp {n f : Nat} (T : Tb) (h : ∀ ns : List Int, ns.length ≤ 63 → ∃ k sto, callF Tbl Wf n f [.lst (ns.map .int)] [] = .ok k (.bl true) sto) (H : Hp) (a : Addr) (ns : List Int) (hl : ns.length ≤ 63) (hS : SqL T.K H a (ns.map V.int)) :
    spC T (callF Tbl Wf n f) [.ref a] H (fun v _ => v = .bl true) fun _ _ _ => False := by
  let b : Bs := { OX := fun _ => False, H0 := H, so0 := [], ρ := [], H := H, own := [], sown := [] }
  have hΦ : Same H b.Φ := fun a u q => by
    unfold Bs.Φ
    rw [hid_at]
    · exact q
    · rintro (z | z)
      · exact z
      · exact absurd z List.not_mem_nil
  have allI : ∀ ns : List Int, RpL T b.ρ b.Φ (ns.map .int) (ns.map V.int) := fun ns => by
    induction ns with
    | nil => exact .nil
    | cons i ns ih => exact .cons (.int i) ih
  refine ⟨b, [.lst (ns.map .int)], [], rfl, ⟨.nil, List.nodup_nil, fun a m => absurd m List.not_mem_nil, fun a z => z.elim, rfl⟩, .cons (.lst (same_l hΦ hS) (allI ns)) .nil, ?_⟩
  obtain ⟨k, sto, e⟩ := h ns hl
  rw [e]
  exact fun v b' o g B r => (r.scal rfl).2.bl'
end
/-- the law's function, for walk_of -/
theorem law_fn {T : Tb} {Tbl : Nat → Option Fd} {M : Md} {K : PySem.W.Frag} {mg : PySem.Str → Option Value} (P : Program) (w : World) (n Wf f : Nat) {x y : PySem.Str} {fa fa' : Addr} {fd : FuncData} (H : Top T Tbl M P K mg) (h : DefAt Tbl M K mg f x fa' fd [y]) (hfa : mg x = some (.ref fa)) :
    ∃ fd : FuncData, (∀ (s : Shared) (u : Value), BindsTo s fd ⟨[u], []⟩ [(y, u)]) ∧ ∀ base : Heap, K.In base → base.Ns mainGlobals mg → FnOk P w K mg base (L2.CX P w) (n + 2) fa fd [y] (spC T (callF Tbl Wf n f)) := by
  obtain ⟨st, N, body, h1, F, S, hb, ht, hc⟩ := id h
  have e : some (Value.ref fa') = some (.ref fa) := h1.symm.trans hfa
  cases e
  exact ⟨fd, fun s u => .of_eq (hb [u] rfl), fun base _ _ => all_ok H n f x fa fd [y] h⟩
/-- the goal that k_head leaves -/
theorem walk_bt {mk : PySem.W.Frag → Tb} (hmk : ∀ K, (mk K).K = K) {Tbl : Nat → Option Fd} {n Wf f : Nat} {y : PySem.Str} {l : PySem.W.OpenLaw} {q : Program} {loose : List PySem.Str} {XP : (PySem.Str → Option Value) → Heap → Prop} {YP : World → Heap → Prop} {d : DefRec} {K : Params → PySem.W.Frag} (hn : l.most = some 63) (hdf : d.params.defaults = [])
    (hr : Room (n + 2) callerA) (main : ∀ ns : List Int, ns.length ≤ 63 → ∃ k sto, callF Tbl Wf n f [.lst (ns.map .int)] [] = .ok k (.bl true) sto)
    (hY : ∀ (w : World) (h : Heap), YP w h → (K w.params).In h)
    (F : ∀ (w : World) (mg : PySem.Str → Option Value) (fa : Addr) (h : Heap), (K w.params).In h → h.Ns mainGlobals mg → mg d.name = some (.ref fa) →
      ∃ fd : FuncData, (∀ (s : Shared) (u : Value), BindsTo s fd ⟨[u], []⟩ [(y, u)]) ∧ ∀ base : Heap, (K w.params).In base → base.Ns mainGlobals mg → FnOk l.prog w (K w.params) mg base (L2.CX l.prog w) (n + 2) fa fd [y] (spC (mk (K w.params)) (callF Tbl Wf n f))) :
    PySem.W.WalkO q loose XP YP l.row.toRowW d [] (fun f vs => PySem.call f vs) :=
  L2.walk_of (n := 63) (k := n + 2) (x := y) (CX := fun w => L2.CX l.prog w) (sp := fun w => spC (mk (K w.params)) (callF Tbl Wf n f)) hn (by decide) hdf hr hY F
    (fun w H a ns hl _ hS => law_sp (mk (K w.params)) main H a ns hl (by rw [hmk]; exact hS)) fun w H s e s' z => by
      obtain ⟨_, _, _, _, _, _, _, _, _, _, _, _, z⟩ := z
      exact z
end BT
end

section
/-! BtMath: plain lemmas about the evaluator: calls, loops, the law's own rows of numbers. -/
namespace BT
set_option autoImplicit false
theorem callF_eq {T : Nat → Option Fd} {W n f : Nat} {fd : Fd} {ds : List D} {sto : Sto} (h : T f = some fd) (hl : ds.length = fd.np) (hn : fd.np ≤ fd.ns) :
    callF T W (n + 1) f ds sto = (evalSs (callF T W n) W fd.body { env := (ds.map fun d => some (0, d)) ++ List.replicate (fd.ns - fd.np) none, sto := sto }).call := by
  show (match T f with | none => CR.err | some fd => _) = _
  rw [h]
  simp only [hl, hn, and_self, if_true]
theorem forL_nil (step : D → S → Fl) (s : S) : forL step [] s = .next s := rfl
theorem forL_next {step : D → S → Fl} {d : D} {ds : List D} {s s' : S} (h : step d s = .next s') : forL step (d :: ds) s = forL step ds s' := by
  show (match step d s with | .next s' => forL step ds s' | .cont s' => forL step ds s' | .brk s' => .next s' | r => r) = _
  rw [h]
theorem forL_cont {step : D → S → Fl} {d : D} {ds : List D} {s s' : S} (h : step d s = .cont s') : forL step (d :: ds) s = forL step ds s' := by
  show (match step d s with | .next s' => forL step ds s' | .cont s' => forL step ds s' | .brk s' => .next s' | r => r) = _
  rw [h]
theorem forL_brk {step : D → S → Fl} {d : D} {ds : List D} {s s' : S} (h : step d s = .brk s') : forL step (d :: ds) s = .next s' := by
  show (match step d s with | .next s' => forL step ds s' | .cont s' => forL step ds s' | .brk s' => .next s' | r => r) = _
  rw [h]
theorem forL_ret {step : D → S → Fl} {d : D} {ds : List D} {s : S} {k : Nat} {v : D} {t : Sto} (h : step d s = .ret k v t) : forL step (d :: ds) s = .ret k v t := by
  show (match step d s with | .next s' => forL step ds s' | .cont s' => forL step ds s' | .brk s' => .next s' | r => r) = _
  rw [h]
/-- the ints of a list -/
abbrev il (ns : List Int) : D := .lst (ns.map .int)
theorem ixN_nat {n j : Nat} (h : j < n) : ixN n (j : Int) = some j := by
  unfold ixN
  rw [if_pos (by omega), if_pos (by omega)]
  simp
theorem idx_ints {ns : List Int} {j : Nat} {x : Int} (h : ns[j]? = some x) : idxD (il ns) (.int (j : Int)) = some (.int x) := by
  have hj : j < ns.length := (List.getElem?_eq_some_iff.mp h).1
  simp only [idxD, List.length_map]
  rw [ixN_nat hj]
  simp [h]
theorem bits_l {i j : Int} (h : i.natAbs < 18446744073709551616) : bitsOk i j = true := by unfold bitsOk; simp [h]
theorem bits_r {i j : Int} (h : j.natAbs < 18446744073709551616) : bitsOk i j = true := by unfold bitsOk; simp [h]

/-! ### _law_row(_law_script, _law_k, _law_count) -/
def brow : CSs :=
    .cons (.asg (.name 3) (.int 0)) <|
    .cons (.ifs (.cmp .lt (.bor 1) (.bi .len (.cons (.bor 0) .nil))) (.cons (.asg (.name 3) (.bi .int (.cons (.idx (.bor 0) (.bor 1)) .nil))) <|
      .nil) (.nil)) <|
    .cons (.asg (.name 4) (.lst 1 .nil)) <|
    .cons (.ifs (.cmp .ge (.bor 3) (.bin .pow (.int 10) (.int 18))) (.cons (.for (.name 6) (.range1 (.bor 2)) (.cons (.app 4 (.bin .mod (.bi .int (.cons (.bor 3) .nil)) (.int 1000))) <|
        .cons (.asg (.name 3) (.bin .fdiv (.bor 3) (.int 1000))) <|
        .nil)) <|
      .cons (.ret (.mv 4)) <|
      .nil) (.nil)) <|
    .cons (.asg (.name 5) (.bin .mod (.bi .int (.cons (.bin .add (.bin .add (.bin .mul (.bor 3) (.int 48271)) (.bin .mul (.bor 1) (.int 69621))) (.int 11)) .nil)) (.int 2147483647))) <|
    .cons (.for (.name 6) (.range1 (.bor 2)) (.cons (.asg (.name 5) (.bin .mod (.bi .int (.cons (.bin .add (.bin .add (.bin .mul (.bor 5) (.int 16807)) (.bin .mul (.bor 6) (.int 7919))) (.int 101)) .nil)) (.int 2147483647))) <|
      .cons (.app 4 (.bin .mod (.bin .fdiv (.bor 5) (.int 65536)) (.int 1000))) <|
      .nil)) <|
    .cons (.ret (.mv 4)) <|
    .nil
section
variable {T : Nat → Option Fd} {W n f : Nat} {sto : Sto}
theorem log_lt {j : Int} {k : Nat} (h : j.natAbs < 2 ^ k) (hk : k ≤ 9000 := by decide) (h1 : 0 < k := by decide) : j.natAbs.log2 < 9000 := by
  by_cases h0 : j.natAbs = 0
  · rw [h0]; decide
  · have := (Nat.log2_lt h0).mpr h
    omega
theorem binop_add (i j : Int) : binop .add (.int i) (.int j) = some (.int (i + j)) := rfl
theorem binop_sub (i j : Int) : binop .sub (.int i) (.int j) = some (.int (i - j)) := rfl
theorem binop_mul {i j : Int} (h : bitsOk i j = true) : binop .mul (.int i) (.int j) = some (.int (i * j)) := by simp [binop, h]
theorem binop_fdiv {i j : Int} (h : 0 < j) (h2 : j.natAbs.log2 < 9000) : binop .fdiv (.int i) (.int j) = some (.int (i / j)) := by simp [binop, h, h2]
theorem binop_mod {i j : Int} (h : 0 < j) : binop .mod (.int i) (.int j) = some (.int (i % j)) := by simp [binop, h]
theorem binop_pow {i j : Int} (h : 0 ≤ j ∧ j ≤ 1000 ∧ i.natAbs < 18446744073709551616) : binop .pow (.int i) (.int j) = some (.int (i ^ j.toNat)) := by simp only [binop, h, and_self, if_true]
theorem pow18 : binop .pow (.int 10) (.int 18) = some (.int 1000000000000000000) := by
  have h : binop .pow (.int 10) (.int 18) = (if (0:Int) ≤ 18 ∧ (18:Int) ≤ 1000 ∧ (10:Int).natAbs < 18446744073709551616 then some (.int (10 ^ (18:Int).toNat)) else none) := rfl
  rw [h, if_pos (by decide)]
  rfl
theorem pow60 : binop .pow (.int 10) (.int 60) = some (.int 1000000000000000000000000000000000000000000000000000000000000) := by
  have h : binop .pow (.int 10) (.int 60) = (if (0:Int) ≤ 60 ∧ (60:Int) ≤ 1000 ∧ (10:Int).natAbs < 18446744073709551616 then some (.int (10 ^ (60:Int).toNat)) else none) := rfl
  rw [h, if_pos (by decide)]
  rfl
theorem log1000 : (Int.natAbs 1000).log2 < 9000 := log_lt (k := 10) (by decide)
theorem log65536 : (Int.natAbs 65536).log2 < 9000 := log_lt (k := 17) (by decide)
theorem fdiv1000 (i : Int) : binop .fdiv (.int i) (.int 1000) = some (.int (i / 1000)) := binop_fdiv (by decide) log1000
theorem fdiv65536 (i : Int) : binop .fdiv (.int i) (.int 65536) = some (.int (i / 65536)) := binop_fdiv (by decide) log65536
theorem lim1000 {n : Nat} (h : n ≤ 1000) : n < LIM := by unfold LIM; omega
theorem ev_next {C : Nat → List D → Sto → CR} {W : Nat} {a : CS} {r : CSs} {s s' : S} (h : evalS C W a s = .next s') : evalSs C W (.cons a r) s = evalSs C W r s' := by
  simp [evalSs, h]
theorem ev_ret {C : Nat → List D → Sto → CR} {W : Nat} {a : CS} {r : CSs} {s : S} {k : Nat} {d : D} {t : Sto} (h : evalS C W a s = .ret k d t) : evalSs C W (.cons a r) s = .ret k d t := by
  simp [evalSs, h]
theorem row_loop1 (C : Nat → List D → Sto → CR) (x0 x1 x2 x5 : Option (Nat × D)) : ∀ (items : List D) (c : Int) (acc : List Int) (x6 : Option (Nat × D)), acc.length + items.length ≤ 1000 →
    ∃ (rs : List Int) (c' : Int) (y6 : Option (Nat × D)), rs.length = items.length ∧ (∀ r ∈ rs, 0 ≤ r ∧ r < 1000) ∧
      forL (fun d s2 => match assign (.name 6) 0 d s2 with
        | some s3 => evalSs C W (.cons (.app 4 (.bin .mod (.bi .int (.cons (.bor 3) .nil)) (.int 1000))) <| .cons (.asg (.name 3) (.bin .fdiv (.bor 3) (.int 1000))) <| .nil) s3
        | none => .err) items { env := [x0, x1, x2, some (0, .int c), some (1, il acc), x5, x6], sto := sto } =
      .next { env := [x0, x1, x2, some (0, .int c'), some (1, il (acc ++ rs)), x5, y6], sto := sto } := by
  intro items
  induction items with
  | nil => exact fun c acc x6 _ => ⟨[], c, x6, rfl, fun r m => by simp at m, by simp [forL_nil]⟩
  | cons d ds ih =>
    intro c acc x6 hl
    rw [List.length_cons] at hl
    obtain ⟨rs, c', y6, h1, h2, h3⟩ := ih (c / 1000) (acc ++ [c % 1000]) (some (0, d)) (by rw [List.length_append]; simp; omega)
    refine ⟨c % 1000 :: rs, c', y6, by simp [h1], fun r m => ?_, ?_⟩
    · rcases List.mem_cons.mp m with rfl | m
      · exact ⟨Int.emod_nonneg _ (by decide), Int.emod_lt_of_pos _ (by decide)⟩
      · exact h2 r m
    · have e : acc ++ c % 1000 :: rs = (acc ++ [c % 1000]) ++ rs := by simp
      rw [e, ← h3]
      refine forL_next ?_
      have hlim : acc.length < LIM := lim1000 (by omega)
      simp [assign, evalSs, evalS, evalE, evalEs, Out.bind, Out.fl, lift, binop_mod, fdiv1000, biD, EV.d, optFl, EV.fit, BT.fit, scal, hlim]
theorem row_loop2 (C : Nat → List D → Sto → CR) (x0 x1 x2 x3 : Option (Nat × D)) : ∀ (items : List D) (c : Int) (acc : List Int) (x6 : Option (Nat × D)), acc.length + items.length ≤ 1000 → (∀ d ∈ items, ∃ i : Int, d = .int i) →
    ∃ (rs : List Int) (y5 y6 : Option (Nat × D)), rs.length = items.length ∧ (∀ r ∈ rs, 0 ≤ r ∧ r < 1000) ∧
      forL (fun d s2 => match assign (.name 6) 0 d s2 with
        | some s3 => evalSs C W (.cons (.asg (.name 5) (.bin .mod (.bi .int (.cons (.bin .add (.bin .add (.bin .mul (.bor 5) (.int 16807)) (.bin .mul (.bor 6) (.int 7919))) (.int 101)) .nil)) (.int 2147483647))) <|
      .cons (.app 4 (.bin .mod (.bin .fdiv (.bor 5) (.int 65536)) (.int 1000))) <|
      .nil) s3
        | none => .err) items { env := [x0, x1, x2, x3, some (1, il acc), some (0, .int c), x6], sto := sto } =
      .next { env := [x0, x1, x2, x3, some (1, il (acc ++ rs)), y5, y6], sto := sto } := by
  intro items
  induction items with
  | nil => exact fun c acc x6 _ _ => ⟨[], some (0, .int c), x6, rfl, fun r m => by simp at m, by simp [forL_nil]⟩
  | cons d ds ih =>
    intro c acc x6 hl hi
    rw [List.length_cons] at hl
    obtain ⟨j, rfl⟩ := hi d (by simp)
    obtain ⟨rs, c', y6, h1, h2, h3⟩ := ih ((c * 16807 + j * 7919 + 101) % 2147483647) (acc ++ [((c * 16807 + j * 7919 + 101) % 2147483647) / 65536 % 1000]) (some (0, .int j)) (by rw [List.length_append]; simp; omega) (fun d m => hi d (List.mem_cons_of_mem _ m))
    refine ⟨((c * 16807 + j * 7919 + 101) % 2147483647) / 65536 % 1000 :: rs, c', y6, by simp [h1], fun r m => ?_, ?_⟩
    · rcases List.mem_cons.mp m with rfl | m
      · exact ⟨Int.emod_nonneg _ (by decide), Int.emod_lt_of_pos _ (by decide)⟩
      · exact h2 r m
    · have e : ∀ z : Int, acc ++ z :: rs = (acc ++ [z]) ++ rs := by simp
      rw [e, ← h3]
      refine forL_next ?_
      have hlim : acc.length < LIM := lim1000 (by omega)
      have m1 : ∀ c : Int, bitsOk c 16807 = true := fun c => bits_r (by decide)
      have m2 : ∀ c : Int, bitsOk c 7919 = true := fun c => bits_r (by decide)
      simp [assign, evalSs, evalS, evalE, evalEs, Out.bind, Out.fl, lift, binop_mod, binop_mul, binop_add, m1, m2, fdiv65536, biD, EV.d, optFl, EV.fit, BT.fit, scal, hlim]
theorem evalI_range1 {C : Nat → List D → Sto → CR} {e : CE} {s s1 : S} {x : EV} {n : Int} (h : evalE C e s = .ok x s1) (hx : x.d = .int n) (h1 : n < 4611686018427387904) (h2 : -4611686018427387904 ≤ n) :
    evalI C (.range1 e) s = .ok ((List.range n.toNat).map fun (i : Nat) => .int (i : Int)) s1 := by
  simp only [evalI, h, Out.bind, hx]
  exact if_pos ⟨h1, h2⟩
/-- the state of `_law_row` -/
abbrev rs0 (a b c x3 x4 x5 x6 : Option (Nat × D)) (sto : Sto) : S := ⟨[a, b, c, x3, x4, x5, x6], sto⟩
abbrev rng (c : Nat) : List D := (List.range c).map fun (i : Nat) => .int (i : Int)
variable {a b : Option (Nat × D)}
theorem row_rng (C : Nat → List D → Sto → CR) {c : Nat} {x3 x4 x5 x6 : Option (Nat × D)} (hc : c ≤ 900) : evalI C (.range1 (.bor 2)) (rs0 a b (some (0, .int c)) x3 x4 x5 x6 sto) = .ok (rng c) (rs0 a b (some (0, .int c)) x3 x4 x5 x6 sto) := by
  refine evalI_range1 (x := .bor 0 (.int c)) (n := c) ?_ rfl (by omega) (by omega)
  simp [evalE]
theorem row_cell (C : Nat → List D → Sto → CR) {ns : List Int} {k : Nat} {x2 x4 x5 x6 : Option (Nat × D)} : ∃ v : Int, evalS C W (.ifs (.cmp .lt (.bor 1) (.bi .len (.cons (.bor 0) .nil))) (.cons (.asg (.name 3) (.bi .int (.cons (.idx (.bor 0) (.bor 1)) .nil))) <| .nil) (.nil)) (rs0 (some (0, il ns)) (some (0, .int k)) x2 (some (0, .int 0)) x4 x5 x6 sto) =
      .next (rs0 (some (0, il ns)) (some (0, .int k)) x2 (some (0, .int v)) x4 x5 x6 sto) := by
  by_cases h : k < ns.length
  · obtain ⟨x, hx⟩ : ∃ x, ns[k]? = some x := ⟨ns[k], by simp [h]⟩
    have hi := idx_ints hx
    refine ⟨x, ?_⟩
    simp [assign, evalSs, evalS, evalE, evalEs, evalT, Out.bind, Out.fl, liftB, lift, biD, EV.d, optFl, EV.fit, BT.fit, scal, hi, cmpop, truth, h]
  · refine ⟨0, ?_⟩
    simp [assign, evalSs, evalS, evalE, evalEs, evalT, Out.bind, Out.fl, liftB, lift, biD, EV.d, optFl, EV.fit, BT.fit, scal, cmpop, truth, h]
theorem row_test (C : Nat → List D → Sto → CR) {v : Int} {c x4 x5 x6 : Option (Nat × D)} : evalT C (.cmp .ge (.bor 3) (.bin .pow (.int 10) (.int 18))) (rs0 a b c (some (0, .int v)) x4 x5 x6 sto) = .ok (decide (1000000000000000000 ≤ v)) (rs0 a b c (some (0, .int v)) x4 x5 x6 sto) := by
  simp [evalT, evalE, Out.bind, lift, liftB, pow18, EV.d, cmpop, truth]
theorem row_if1 (C : Nat → List D → Sto → CR) {v : Int} {c : Nat} (hc : c ≤ 900) (h : 1000000000000000000 ≤ v) : ∃ rs : List Int, rs.length = c ∧ (∀ r ∈ rs, 0 ≤ r ∧ r < 1000) ∧ evalS C W (.ifs (.cmp .ge (.bor 3) (.bin .pow (.int 10) (.int 18))) (.cons (.for (.name 6) (.range1 (.bor 2)) (.cons (.app 4 (.bin .mod (.bi .int (.cons (.bor 3) .nil)) (.int 1000))) <|
        .cons (.asg (.name 3) (.bin .fdiv (.bor 3) (.int 1000))) <|
        .nil)) <|
      .cons (.ret (.mv 4)) <|
      .nil) (.nil)) (rs0 a b (some (0, .int c)) (some (0, .int v)) (some (1, il [])) none none sto) = .ret 1 (il rs) sto := by
  obtain ⟨rs, c', y6, h1, h2, h3⟩ := row_loop1 (sto := sto) (W := W) C a b (some (0, .int c)) none (rng c) v [] none (by simp; omega)
  refine ⟨rs, by simpa using h1, h2, ?_⟩
  have hf : evalS C W (.for (.name 6) (.range1 (.bor 2)) (.cons (.app 4 (.bin .mod (.bi .int (.cons (.bor 3) .nil)) (.int 1000))) <|
        .cons (.asg (.name 3) (.bin .fdiv (.bor 3) (.int 1000))) <|
        .nil)) (rs0 a b (some (0, .int c)) (some (0, .int v)) (some (1, il [])) none none sto) = .next (rs0 a b (some (0, .int c)) (some (0, .int c')) (some (1, il rs)) none y6 sto) := by
    rw [List.nil_append] at h3
    rw [evalS, row_rng C hc]
    exact h3
  rw [evalS, row_test C]
  simp only [Out.fl, h, decide_true, if_true]
  rw [ev_next hf, ev_ret (k := 1) (d := il rs) (t := sto) (by simp [evalS, evalE, Out.fl])]
theorem row_if2 (C : Nat → List D → Sto → CR) {v : Int} {c x4 x5 x6 : Option (Nat × D)} (h : ¬ 1000000000000000000 ≤ v) : evalS C W (.ifs (.cmp .ge (.bor 3) (.bin .pow (.int 10) (.int 18))) (.cons (.for (.name 6) (.range1 (.bor 2)) (.cons (.app 4 (.bin .mod (.bi .int (.cons (.bor 3) .nil)) (.int 1000))) <|
        .cons (.asg (.name 3) (.bin .fdiv (.bor 3) (.int 1000))) <|
        .nil)) <|
      .cons (.ret (.mv 4)) <|
      .nil) (.nil)) (rs0 a b c (some (0, .int v)) x4 x5 x6 sto) = .next (rs0 a b c (some (0, .int v)) x4 x5 x6 sto) := by
  rw [evalS, row_test C]
  simp only [Out.fl, h, decide_false]
  rfl
theorem row_seed (C : Nat → List D → Sto → CR) {v : Int} {k : Nat} {c x4 x5 x6 : Option (Nat × D)} : ∃ z : Int, evalS C W (.asg (.name 5) (.bin .mod (.bi .int (.cons (.bin .add (.bin .add (.bin .mul (.bor 3) (.int 48271)) (.bin .mul (.bor 1) (.int 69621))) (.int 11)) .nil)) (.int 2147483647))) (rs0 a (some (0, .int k)) c (some (0, .int v)) x4 x5 x6 sto) = .next (rs0 a (some (0, .int k)) c (some (0, .int v)) x4 (some (0, .int z)) x6 sto) := by
  have m1 : ∀ c : Int, bitsOk c 48271 = true := fun c => bits_r (by decide)
  have m2 : ∀ c : Int, bitsOk c 69621 = true := fun c => bits_r (by decide)
  refine ⟨(v * 48271 + k * 69621 + 11) % 2147483647, ?_⟩
  simp [assign, evalS, evalE, evalEs, Out.bind, Out.fl, lift, binop_mod, binop_mul, binop_add, m1, m2, biD, EV.d, optFl]
theorem row_for2 (C : Nat → List D → Sto → CR) {z : Int} {c : Nat} {x3 : Option (Nat × D)} (hc : c ≤ 900) : ∃ (rs : List Int) (y5 y6 : Option (Nat × D)), rs.length = c ∧ (∀ r ∈ rs, 0 ≤ r ∧ r < 1000) ∧ evalS C W (.for (.name 6) (.range1 (.bor 2)) (.cons (.asg (.name 5) (.bin .mod (.bi .int (.cons (.bin .add (.bin .add (.bin .mul (.bor 5) (.int 16807)) (.bin .mul (.bor 6) (.int 7919))) (.int 101)) .nil)) (.int 2147483647))) <|
      .cons (.app 4 (.bin .mod (.bin .fdiv (.bor 5) (.int 65536)) (.int 1000))) <|
      .nil)) (rs0 a b (some (0, .int c)) x3 (some (1, il [])) (some (0, .int z)) none sto) = .next (rs0 a b (some (0, .int c)) x3 (some (1, il rs)) y5 y6 sto) := by
  obtain ⟨rs, y5, y6, h1, h2, h3⟩ := row_loop2 (sto := sto) (W := W) C a b (some (0, .int c)) x3 (rng c) z [] none (by simp; omega) (fun d m => by
    obtain ⟨i, _, rfl⟩ := List.mem_map.mp m
    exact ⟨_, rfl⟩)
  refine ⟨rs, y5, y6, by simpa using h1, h2, ?_⟩
  rw [List.nil_append] at h3
  rw [evalS, row_rng C hc]
  exact h3
theorem row_ok (hT : T f = some ⟨3, 7, brow⟩) {ns : List Int} {k c : Nat} (hn : ns.length ≤ 63) (hc : c ≤ 900) :
    ∃ rs : List Int, rs.length = c ∧ (∀ r ∈ rs, 0 ≤ r ∧ r < 1000) ∧ callF T W (n + 1) f [il ns, .int k, .int c] sto = .ok 1 (il rs) sto := by
  have g1 : evalS (callF T W n) W (.asg (.name 3) (.int 0)) (rs0 (some (0, il ns)) (some (0, .int k)) (some (0, .int c)) none none none none sto) = .next (rs0 (some (0, il ns)) (some (0, .int k)) (some (0, .int c)) (some (0, .int 0)) none none none sto) := by
    simp [evalS, evalE, Out.fl, assign, optFl]
  obtain ⟨v, g2⟩ := row_cell (W := W) (sto := sto) (callF T W n) (ns := ns) (k := k) (x2 := some (0, .int c)) (x4 := none) (x5 := none) (x6 := none)
  have g3 : evalS (callF T W n) W (.asg (.name 4) (.lst 1 .nil)) (rs0 (some (0, il ns)) (some (0, .int k)) (some (0, .int c)) (some (0, .int v)) none none none sto) = .next (rs0 (some (0, il ns)) (some (0, .int k)) (some (0, .int c)) (some (0, .int v)) (some (1, il [])) none none sto) := by
    simp [evalS, evalE, evalEs, Out.fl, Out.bind, assign, optFl]
  by_cases hb : (1000000000000000000 : Int) ≤ v
  · obtain ⟨rs, h1, h2, h3⟩ := row_if1 (W := W) (sto := sto) (callF T W n) (a := some (0, il ns)) (b := some (0, .int k)) hc hb
    refine ⟨rs, h1, h2, ?_⟩
    rw [callF_eq hT rfl (by decide)]
    show (evalSs (callF T W n) W brow (rs0 (some (0, il ns)) (some (0, .int k)) (some (0, .int c)) none none none none sto)).call = _
    unfold brow
    rw [ev_next g1, ev_next g2, ev_next g3, ev_ret h3]
    rfl
  · obtain ⟨z, g5⟩ := row_seed (W := W) (sto := sto) (callF T W n) (a := some (0, il ns)) (k := k) (c := some (0, .int c)) (v := v) (x4 := some (1, il [])) (x5 := none) (x6 := none)
    obtain ⟨rs, y5, y6, h1, h2, g6⟩ := row_for2 (W := W) (sto := sto) (callF T W n) (a := some (0, il ns)) (b := some (0, .int k)) (x3 := some (0, .int v)) (z := z) hc
    refine ⟨rs, h1, h2, ?_⟩
    rw [callF_eq hT rfl (by decide)]
    show (evalSs (callF T W n) W brow (rs0 (some (0, il ns)) (some (0, .int k)) (some (0, .int c)) none none none none sto)).call = _
    unfold brow
    rw [ev_next g1, ev_next g2, ev_next g3, ev_next (row_if2 _ hb), ev_next g5, ev_next g6, ev_ret (k := 1) (d := il rs) (t := sto) (by simp [evalS, evalE, Out.fl])]
    rfl
end
end BT
end

section
namespace K89
open BT
set_option autoImplicit false
/-! ### the defs in the small language -/
/-- tokens_of(line, number): slots 0 line, 1 number, 2 found, 3 word, 4 ready, 5 blank, 6 sign -/
def b0 : CSs :=
    .cons (.asg (.name 2) (.lst 1 .nil)) <|
    .cons (.asg (.name 3) (.str [])) <|
    .cons (.asg (.name 4) (.bl true)) <|
    .cons (.asg (.name 5) (.bl false)) <|
    .cons (.for (.name 6) (.val (.var 0)) (.cons (.ifs (.cmp .eq (.bor 6) (.str [32])) (.cons (.ifs (.and (.cmp .eq (.bor 3) (.str [])) (.bor 4)) (.cons (.rai 1 2 (.cons (.bor 1) (.cons (.bin .add (.bi .len (.cons (.bor 2) .nil)) (.int 1)) .nil))) <|
          .nil) (.nil)) <|
        .cons (.ifs (.cmp .ne (.bor 3) (.str [])) (.cons (.app 2 (.var 3)) <|
          .nil) (.nil)) <|
        .cons (.asg (.tup [3, 4, 5]) (.tup 1 (.cons (.str []) (.cons (.bl true) (.cons (.bl true) .nil))))) <|
        .nil) (.cons (.ifs (.cmp .eq (.bor 6) (.str [41])) (.cons (.ifs (.and (.cmp .eq (.bor 3) (.str [])) (.bor 5)) (.cons (.rai 1 2 (.cons (.bor 1) (.cons (.bin .add (.bi .len (.cons (.bor 2) .nil)) (.int 1)) .nil))) <|
            .nil) (.nil)) <|
          .cons (.ifs (.cmp .ne (.bor 3) (.str [])) (.cons (.app 2 (.var 3)) <|
            .nil) (.nil)) <|
          .cons (.app 2 (.str [41])) <|
          .cons (.asg (.tup [3, 4, 5]) (.tup 1 (.cons (.str []) (.cons (.bl false) (.cons (.bl false) .nil))))) <|
          .nil) (.cons (.ifs (.cmp .eq (.bor 6) (.str [40])) (.cons (.ifs (.or (.cmp .ne (.bor 3) (.str [])) (.not (.bor 4))) (.cons (.rai 1 2 (.cons (.bor 1) (.cons (.bin .add (.bin .add (.bi .len (.cons (.bor 2) .nil)) (.int 1)) (.bi .len (.cons (.sl (.bor 3) .non (.som (.int 1))) .nil))) .nil))) <|
              .nil) (.nil)) <|
            .cons (.app 2 (.str [40])) <|
            .cons (.asg (.name 5) (.bl false)) <|
            .nil) (.cons (.ifs (.and (.cmp .eq (.bor 3) (.str [])) (.not (.bor 4))) (.cons (.rai 1 2 (.cons (.bor 1) (.cons (.bin .add (.bi .len (.cons (.bor 2) .nil)) (.int 1)) .nil))) <|
              .nil) (.nil)) <|
            .cons (.par3 3 4 5 (.bin .add (.bor 3) (.bor 6)) (.bl false) (.bl false)) <|
            .nil)) <|
          .nil)) <|
        .nil)) <|
      .nil)) <|
    .cons (.ifs (.and (.cmp .eq (.bor 3) (.str [])) (.bor 5)) (.cons (.rai 1 2 (.cons (.bor 1) (.cons (.bin .add (.bi .len (.cons (.bor 2) .nil)) (.int 1)) .nil))) <|
      .nil) (.nil)) <|
    .cons (.ifs (.cmp .ne (.bor 3) (.str [])) (.cons (.app 2 (.var 3)) <|
      .nil) (.nil)) <|
    .cons (.ret (.mv 2)) <|
    .nil
/-- number_in(token): slots 0 token, 1 sign -/
def b1 : CSs :=
    .cons (.ifs (.or (.not (.chn .le .le (.int 1) (.bi .len (.cons (.bor 0) .nil)) (.int 3))) (.and (.cmp .eq (.idx (.bor 0) (.int 0)) (.str [48])) (.cmp .gt (.bi .len (.cons (.bor 0) .nil)) (.int 1)))) (.cons (.ret (.neg (.int 1))) <|
      .nil) (.nil)) <|
    .cons (.for (.name 1) (.val (.var 0)) (.cons (.ifs (.cmp .notin (.bor 1) (.str [48, 49, 50, 51, 52, 53, 54, 55, 56, 57])) (.cons (.ret (.neg (.int 1))) <|
        .nil) (.nil)) <|
      .nil)) <|
    .cons (.ret (.bi .int (.cons (.bor 0) .nil))) <|
    .nil
/-- is_name(token): slots 0 token, 1 sign -/
def b2 : CSs :=
    .cons (.for (.name 1) (.val (.var 0)) (.cons (.ifs (.cmp .notin (.bor 1) (.str [97, 98, 99, 100, 101, 102, 103, 104, 105, 106, 107, 108, 109, 110, 111, 112, 113, 114, 115, 116, 117, 118, 119, 120, 121, 122])) (.cons (.ret (.bl false)) <|
        .nil) (.nil)) <|
      .nil)) <|
    .cons (.ret (.chn .le .le (.int 1) (.bi .len (.cons (.bor 0) .nil)) (.int 6))) <|
    .nil
/-- value_text(value): slots 0 value -/
def b3 : CSs :=
    .cons (.ifs (.isi .tuple (.bor 0)) (.cons (.ret (.bin .add (.bin .add (.bin .add (.bin .add (.str [40]) (.call 3 (.cons (.idx (.bor 0) (.int 0)) .nil))) (.str [32])) (.call 3 (.cons (.idx (.bor 0) (.int 1)) .nil))) (.str [41]))) <|
      .nil) (.nil)) <|
    .cons (.ret (.bi .str (.cons (.bor 0) .nil))) <|
    .nil
/-- takes_more(pairs): slots 0 pairs -/
def b4 : CSs :=
    .cons (.ret (.or (.cmp .eq (.bor 0) (.lst 1 .nil)) (.cmp .lt (.bi .len (.cons (.idx (.bor 0) (.neg (.int 1))) .nil)) (.int 2)))) <|
    .nil
/-- read_value(text): slots 0 text, 1 found, 2 pairs, 3 result, 4 at, 5 token, 6 item, 7 pair -/
def b5 : CSs :=
    .cons (.asg (.name 1) (.call 0 (.cons (.var 0) (.cons (.int 1) .nil)))) <|
    .cons (.asg (.name 2) (.lst 2 .nil)) <|
    .cons (.asg (.name 3) .non) <|
    .cons (.for (.tup [4, 5]) (.enum (.var 1)) (.cons (.asg (.name 6) .non) <|
      .cons (.ifs (.cmp .isNot (.bor 3) .non) (.cons (.rai 1 2 (.cons (.int 1) (.cons (.bin .add (.bor 4) (.int 1)) .nil))) <|
        .nil) (.nil)) <|
      .cons (.ifs (.and (.cmp .eq (.bor 5) (.str [40])) (.and (.cmp .lt (.bi .len (.cons (.bor 2) .nil)) (.int 4)) (.call 4 (.cons (.bor 2) .nil)))) (.cons (.app 2 (.lst 1 .nil)) <|
        .nil) (.cons (.ifs (.and (.cmp .eq (.bor 5) (.str [41])) (.not (.call 4 (.cons (.bor 2) .nil)))) (.cons (.popA 7 2) <|
          .cons (.asg (.name 6) (.tup 1 (.cons (.idx (.bor 7) (.int 0)) (.cons (.idx (.bor 7) (.int 1)) .nil)))) <|
          .nil) (.cons (.ifs (.and (.cmp .ge (.call 1 (.cons (.var 5) .nil)) (.int 0)) (.call 4 (.cons (.bor 2) .nil))) (.cons (.asg (.name 6) (.call 1 (.cons (.var 5) .nil))) <|
            .nil) (.cons (.rai 1 2 (.cons (.int 1) (.cons (.bin .add (.bor 4) (.int 1)) .nil))) <|
            .nil)) <|
          .nil)) <|
        .nil)) <|
      .cons (.ifs (.and (.cmp .isNot (.bor 6) .non) (.cmp .eq (.bor 2) (.lst 1 .nil))) (.cons (.asg (.name 3) (.var 6)) <|
        .nil) (.cons (.ifs (.cmp .isNot (.bor 6) .non) (.cons (.appL 2 (.var 6)) <|
          .nil) (.nil)) <|
        .nil)) <|
      .nil)) <|
    .cons (.ifs (.cmp .is (.bor 3) .non) (.cons (.rai 1 2 (.cons (.int 1) (.cons (.bin .add (.bi .len (.cons (.bor 1) .nil)) (.int 1)) .nil))) <|
      .nil) (.nil)) <|
    .cons (.ret (.mv 3)) <|
    .nil
/-- is_value_text(text): slots 0 text -/
def b6 : CSs :=
    .cons (.tri (.cons (.expr (.call 5 (.cons (.var 0) .nil))) <|
      .nil) [1] none (.cons (.ret (.bl false)) <|
      .nil)) <|
    .cons (.ret (.bl true)) <|
    .nil
/-- _law_row(_law_script, _law_k, _law_count): slots 0 _law_script, 1 _law_k, 2 _law_count, 3 _law_cell, 4 _law_row_here, 5 _law_seed, 6 _law_at -/
def b7 : CSs :=
    .cons (.asg (.name 3) (.int 0)) <|
    .cons (.ifs (.cmp .lt (.bor 1) (.bi .len (.cons (.bor 0) .nil))) (.cons (.asg (.name 3) (.bi .int (.cons (.idx (.bor 0) (.bor 1)) .nil))) <|
      .nil) (.nil)) <|
    .cons (.asg (.name 4) (.lst 1 .nil)) <|
    .cons (.ifs (.cmp .ge (.bor 3) (.bin .pow (.int 10) (.int 18))) (.cons (.for (.name 6) (.range1 (.bor 2)) (.cons (.app 4 (.bin .mod (.bi .int (.cons (.bor 3) .nil)) (.int 1000))) <|
        .cons (.asg (.name 3) (.bin .fdiv (.bor 3) (.int 1000))) <|
        .nil)) <|
      .cons (.ret (.mv 4)) <|
      .nil) (.nil)) <|
    .cons (.asg (.name 5) (.bin .mod (.bi .int (.cons (.bin .add (.bin .add (.bin .mul (.bor 3) (.int 48271)) (.bin .mul (.bor 1) (.int 69621))) (.int 11)) .nil)) (.int 2147483647))) <|
    .cons (.for (.name 6) (.range1 (.bor 2)) (.cons (.asg (.name 5) (.bin .mod (.bi .int (.cons (.bin .add (.bin .add (.bin .mul (.bor 5) (.int 16807)) (.bin .mul (.bor 6) (.int 7919))) (.int 101)) .nil)) (.int 2147483647))) <|
      .cons (.app 4 (.bin .mod (.bin .fdiv (.bor 5) (.int 65536)) (.int 1000))) <|
      .nil)) <|
    .cons (.ret (.mv 4)) <|
    .nil
/-- _law_is_integer(_law_actual): slots 0 _law_actual -/
def b8 : CSs :=
    .cons (.ret (.and (.isi .int (.bor 0)) (.not (.isi .bool (.bor 0))))) <|
    .nil
/-- _law_scan(_law_line_here): slots 0 _law_line_here, 1 _law_found, 2 _law_at, 3 _law_turn, 4 _law_end, 5 _law_sign -/
def b9 : CSs :=
    .cons (.asg (.name 1) (.lst 1 .nil)) <|
    .cons (.asg (.name 2) (.int 0)) <|
    .cons (.for (.name 3) (.range1 (.bin .add (.bi .len (.cons (.bor 0) .nil)) (.int 1))) (.cons (.ifs (.cmp .eq (.bor 2) (.bi .len (.cons (.bor 0) .nil))) (.cons (.ret (.tup 2 (.cons (.mv 1) (.cons (.int 0) .nil)))) <|
        .nil) (.nil)) <|
      .cons (.ifs (.cmp .eq (.idx (.bor 0) (.bor 2)) (.str [32])) (.cons (.ret (.tup 1 (.cons (.var 1) (.cons (.bin .add (.bi .len (.cons (.bor 1) .nil)) (.int 1)) .nil)))) <|
        .nil) (.nil)) <|
      .cons (.asg (.name 4) (.bin .add (.bor 2) (.int 1))) <|
      .cons (.ifs (.cmp .notin (.idx (.bor 0) (.bor 2)) (.str [40, 41])) (.cons (.for (.name 5) (.val (.sl (.bor 0) (.som (.bin .add (.bor 2) (.int 1))) .non)) (.cons (.ifs (.cmp .isin (.bor 5) (.str [32, 40, 41])) (.cons (.brk) <|
            .nil) (.nil)) <|
          .cons (.asg (.name 4) (.bin .add (.bor 4) (.int 1))) <|
          .nil)) <|
        .nil) (.nil)) <|
      .cons (.app 1 (.sl (.bor 0) (.som (.bor 2)) (.som (.bor 4)))) <|
      .cons (.asg (.name 2) (.var 4)) <|
      .cons (.ifs (.or (.cmp .eq (.idx (.bor 1) (.neg (.int 1))) (.str [40])) (.or (.cmp .eq (.bor 2) (.bi .len (.cons (.bor 0) .nil))) (.cmp .eq (.idx (.bor 0) (.bor 2)) (.str [41])))) (.cons (.cont) <|
        .nil) (.nil)) <|
      .cons (.ifs (.or (.cmp .ne (.idx (.bor 0) (.bor 2)) (.str [32])) (.or (.cmp .eq (.bin .add (.bor 2) (.int 1)) (.bi .len (.cons (.bor 0) .nil))) (.cmp .isin (.idx (.bor 0) (.bin .add (.bor 2) (.int 1))) (.str [32, 41])))) (.cons (.ret (.tup 1 (.cons (.var 1) (.cons (.bin .add (.bi .len (.cons (.bor 1) .nil)) (.int 1)) .nil)))) <|
        .nil) (.nil)) <|
      .cons (.asg (.name 2) (.bin .add (.bor 2) (.int 1))) <|
      .nil)) <|
    .cons (.ret (.tup 2 (.cons (.mv 1) (.cons (.int 0) .nil)))) <|
    .nil
/-- _law_word(_law_row_here): slots 0 _law_row_here, 1 _law_words_here -/
def b10 : CSs :=
    .cons (.asg (.name 1) (.lst 1 (.cons (.str [40]) (.cons (.str [41]) (.cons (.str [40]) (.cons (.str [41]) (.cons (.str [48]) (.cons (.str [55]) (.cons (.str [49, 50]) (.cons (.str [57, 57, 57]) (.cons (.str [49, 48, 48, 48]) (.cons (.str [48, 48, 55]) (.cons (.str [97]) (.cons (.str [108, 101, 116]) (.cons (.str [97, 98, 99, 100, 101, 102]) (.cons (.str [97, 98, 99, 100, 101, 102, 103]) (.cons (.str [65]) (.cons (.str [61]) (.cons (.str [58]) (.cons (.str [120, 49]) (.cons (.str [45, 49]) (.cons (.str [49, 47, 50]) .nil)))))))))))))))))))))) <|
    .cons (.ret (.idx (.bor 1) (.bin .mod (.bi .int (.cons (.idx (.bor 0) (.int 0)) .nil)) (.int 20)))) <|
    .nil
/-- _law_line(_law_script): slots 0 _law_script, 1 _law_line_here, 2 _law_at, 3 _law_row_here, 4 _law_word_here, 5 _law_place -/
def b11 : CSs :=
    .cons (.asg (.name 1) (.str [])) <|
    .cons (.for (.name 2) (.range1 (.bin .mod (.idx (.call 7 (.cons (.var 0) (.cons (.int 0) (.cons (.int 1) .nil)))) (.int 0)) (.int 10))) (.cons (.asg (.name 4) (.call 10 (.cons (.call 7 (.cons (.var 0) (.cons (.bin .add (.int 1) (.bor 2)) (.cons (.int 1) .nil)))) .nil))) <|
      .cons (.ifs (.and (.cmp .ne (.bor 1) (.str [])) (.and (.cmp .ne (.idx (.bor 1) (.neg (.int 1))) (.str [40])) (.cmp .ne (.bor 4) (.str [41])))) (.cons (.asg (.name 1) (.bin .add (.bor 1) (.str [32]))) <|
        .nil) (.nil)) <|
      .cons (.asg (.name 1) (.bin .add (.bor 1) (.bor 4))) <|
      .nil)) <|
    .cons (.asg (.name 3) (.call 7 (.cons (.var 0) (.cons (.int 11) (.cons (.int 4) .nil))))) <|
    .cons (.ifs (.cmp .eq (.bin .mod (.idx (.bor 3) (.int 0)) (.int 2)) (.int 0)) (.cons (.asg (.name 5) (.bin .mod (.bi .int (.cons (.idx (.bor 3) (.int 1)) .nil)) (.bin .add (.bi .len (.cons (.bor 1) .nil)) (.int 1)))) <|
      .cons (.ifs (.cmp .eq (.bin .mod (.idx (.bor 3) (.int 2)) (.int 3)) (.int 0)) (.cons (.ret (.cat (.sl (.bor 1) .non (.som (.bor 5))) (.sl (.bor 1) (.som (.bin .add (.bor 5) (.int 1))) .non))) <|
        .nil) (.nil)) <|
      .cons (.ret (.cat (.cat (.sl (.bor 1) .non (.som (.bor 5))) (.idx (.lst 1 (.cons (.str [32]) (.cons (.str [40]) (.cons (.str [41]) (.cons (.str [98]) .nil))))) (.bin .mod (.bi .int (.cons (.idx (.bor 3) (.int 3)) .nil)) (.int 4)))) (.sl (.bor 1) (.som (.bor 5)) .non))) <|
      .nil) (.nil)) <|
    .cons (.ret (.mv 1)) <|
    .nil
/-- _law_lines(_law_script): slots 0 _law_script, 1 _law_line_here, 2 _law_number_here, 3 e, 4 _law_tokens, 5 _law_fault_here, 6 _law_told -/
def b12 : CSs :=
    .cons (.asg (.name 1) (.call 11 (.cons (.var 0) .nil))) <|
    .cons (.asg (.name 2) (.bin .add (.int 1) (.bin .mod (.idx (.call 7 (.cons (.var 0) (.cons (.int 12) (.cons (.int 1) .nil)))) (.int 0)) (.int 50)))) <|
    .cons (.asg (.tup [4, 5]) (.call 9 (.cons (.var 1) .nil))) <|
    .cons (.tri (.cons (.asg (.name 6) (.call 0 (.cons (.var 1) (.cons (.var 2) .nil)))) <|
      .nil) [1] (some 3) (.cons (.ret (.and (.cmp .gt (.bor 5) (.int 0)) (.and (.cmp .eq (.xf 3 [(1, 0)]) (.bor 2)) (.and (.cmp .eq (.xf 3 [(1, 1)]) (.bor 5)) (.xis 3 [0, 1]))))) <|
      .nil)) <|
    .cons (.ret (.and (.cmp .eq (.bor 5) (.int 0)) (.and (.isi .list (.bor 6)) (.cmp .eq (.bor 6) (.bor 4))))) <|
    .nil
/-- _law_number(_law_token): slots 0 _law_token, 1 _law_sign -/
def b13 : CSs :=
    .cons (.ifs (.or (.cmp .eq (.bor 0) (.str [])) (.or (.cmp .gt (.bi .len (.cons (.bor 0) .nil)) (.int 3)) (.and (.cmp .eq (.idx (.bor 0) (.int 0)) (.str [48])) (.cmp .gt (.bi .len (.cons (.bor 0) .nil)) (.int 1))))) (.cons (.ret (.neg (.int 1))) <|
      .nil) (.nil)) <|
    .cons (.for (.name 1) (.val (.var 0)) (.cons (.ifs (.cmp .notin (.bor 1) (.str [48, 49, 50, 51, 52, 53, 54, 55, 56, 57])) (.cons (.ret (.neg (.int 1))) <|
        .nil) (.nil)) <|
      .nil)) <|
    .cons (.ret (.bi .int (.cons (.bor 0) .nil))) <|
    .nil
/-- _law_words(_law_script): slots 0 _law_script, 1 _law_signs, 2 _law_row_here, 3 _law_token, 4 _law_at, 5 _law_number_here, 6 _law_due, 7 _law_sign, 8 _law_told -/
def b14 : CSs :=
    .cons (.asg (.name 1) (.str [48, 49, 50, 51, 52, 53, 54, 55, 56, 57, 97, 98, 99, 100, 101, 102, 120, 121, 122, 65, 66, 90, 95, 45, 43, 46, 58, 61])) <|
    .cons (.asg (.name 2) (.call 7 (.cons (.var 0) (.cons (.int 13) (.cons (.int 9) .nil))))) <|
    .cons (.asg (.name 3) (.str [])) <|
    .cons (.for (.name 4) (.range1 (.bin .add (.int 1) (.bin .mod (.bi .int (.cons (.idx (.bor 2) (.int 0)) .nil)) (.int 8)))) (.cons (.asg (.name 3) (.bin .add (.bor 3) (.idx (.bor 1) (.bin .mod (.bi .int (.cons (.idx (.bor 2) (.bin .add (.int 1) (.bor 4))) .nil)) (.idx (.lst 1 (.cons (.int 28) (.cons (.int 10) (.cons (.int 16) (.cons (.int 26) .nil))))) (.bin .mod (.bin .fdiv (.bi .int (.cons (.idx (.bor 2) (.int 0)) .nil)) (.int 8)) (.int 4))))))) <|
      .nil)) <|
    .cons (.asg (.name 5) (.call 1 (.cons (.var 3) .nil))) <|
    .cons (.ifs (.or (.not (.call 8 (.cons (.var 5) .nil))) (.cmp .ne (.bor 5) (.call 13 (.cons (.var 3) .nil)))) (.cons (.ret (.bl false)) <|
      .nil) (.nil)) <|
    .cons (.asg (.name 6) (.and (.cmp .le (.int 1) (.bi .len (.cons (.bor 3) .nil))) (.cmp .le (.bi .len (.cons (.bor 3) .nil)) (.int 6)))) <|
    .cons (.for (.name 7) (.val (.var 3)) (.cons (.ifs (.cmp .notin (.bor 7) (.str [97, 98, 99, 100, 101, 102, 103, 104, 105, 106, 107, 108, 109, 110, 111, 112, 113, 114, 115, 116, 117, 118, 119, 120, 121, 122])) (.cons (.asg (.name 6) (.bl false)) <|
        .nil) (.nil)) <|
      .nil)) <|
    .cons (.asg (.name 8) (.call 2 (.cons (.var 3) .nil))) <|
    .cons (.ret (.ife (.bor 6) (.cmp .is (.bor 8) (.bl true)) (.cmp .is (.bor 8) (.bl false)))) <|
    .nil
/-- _law_value(_law_script, _law_k): slots 0 _law_script, 1 _law_k, 2 _law_row_here, 3 _law_pile, 4 _law_large, 5 _law_at, 6 _law_one, 7 _law_pair, 8 _law_number_here -/
def b15 : CSs :=
    .cons (.asg (.name 2) (.call 7 (.cons (.var 0) (.cons (.var 1) (.cons (.int 1) .nil))))) <|
    .cons (.asg (.name 3) (.lst 1 .nil)) <|
    .cons (.asg (.name 4) (.bl false)) <|
    .cons (.for (.name 5) (.range1 (.bin .add (.int 1) (.bin .mod (.bi .int (.cons (.idx (.bor 2) (.int 0)) .nil)) (.int 9)))) (.cons (.asg (.name 6) (.call 7 (.cons (.var 0) (.cons (.bin .add (.bin .add (.bor 1) (.int 1)) (.bor 5)) (.cons (.int 2) .nil))))) <|
      .cons (.ifs (.and (.cmp .gt (.bin .mod (.idx (.bor 6) (.int 0)) (.int 3)) (.int 0)) (.and (.cmp .gt (.bi .len (.cons (.bor 3) .nil)) (.int 1)) (.cmp .lt (.bi .max2 (.cons (.idx (.idx (.bor 3) (.neg (.int 1))) (.int 1)) (.cons (.idx (.idx (.bor 3) (.neg (.int 2))) (.int 1)) .nil))) (.int 5)))) (.cons (.asg (.name 7) (.tup 1 (.cons (.tup 1 (.cons (.idx (.idx (.bor 3) (.neg (.int 2))) (.int 0)) (.cons (.idx (.idx (.bor 3) (.neg (.int 1))) (.int 0)) .nil))) (.cons (.bin .add (.int 1) (.bi .max2 (.cons (.idx (.idx (.bor 3) (.neg (.int 1))) (.int 1)) (.cons (.idx (.idx (.bor 3) (.neg (.int 2))) (.int 1)) .nil)))) .nil)))) <|
        .cons (.asg (.name 3) (.cat (.sl (.bor 3) .non (.som (.neg (.int 2)))) (.lst 1 (.cons (.var 7) .nil)))) <|
        .nil) (.cons (.asg (.name 8) (.bi .int (.cons (.idx (.bor 6) (.int 1)) .nil))) <|
        .cons (.ifs (.cmp .eq (.bin .mod (.idx (.bor 6) (.int 0)) (.int 11)) (.int 0)) (.cons (.asg (.name 8) (.bin .add (.int 1000) (.bin .mod (.bi .int (.cons (.idx (.bor 6) (.int 1)) .nil)) (.int 100)))) <|
          .cons (.asg (.name 4) (.bl true)) <|
          .nil) (.nil)) <|
        .cons (.app 3 (.tup 1 (.cons (.var 8) (.cons (.int 0) .nil)))) <|
        .nil)) <|
      .nil)) <|
    .cons (.ret (.tup 1 (.cons (.idx (.idx (.bor 3) (.neg (.int 1))) (.int 0)) (.cons (.and (.cmp .le (.idx (.idx (.bor 3) (.neg (.int 1))) (.int 1)) (.int 4)) (.not (.bor 4))) .nil)))) <|
    .nil
/-- _law_text(_law_value_here): slots 0 _law_value_here -/
def b16 : CSs :=
    .cons (.ifs (.isi .tuple (.bor 0)) (.cons (.ret (.bin .add (.bin .add (.bin .add (.bin .add (.str [40]) (.call 16 (.cons (.idx (.bor 0) (.int 0)) .nil))) (.str [32])) (.call 16 (.cons (.idx (.bor 0) (.int 1)) .nil))) (.str [41]))) <|
      .nil) (.nil)) <|
    .cons (.ret (.bi .str (.cons (.bor 0) .nil))) <|
    .nil
/-- _law_equal(_law_told, _law_due): slots 0 _law_told, 1 _law_due -/
def b17 : CSs :=
    .cons (.ifs (.isi .tuple (.bor 1)) (.cons (.ifs (.or (.not (.isi .tuple (.bor 0))) (.cmp .ne (.bi .len (.cons (.bor 0) .nil)) (.int 2))) (.cons (.ret (.bl false)) <|
        .nil) (.nil)) <|
      .cons (.ret (.and (.call 17 (.cons (.idx (.bor 0) (.int 0)) (.cons (.idx (.bor 1) (.int 0)) .nil))) (.call 17 (.cons (.idx (.bor 0) (.int 1)) (.cons (.idx (.bor 1) (.int 1)) .nil))))) <|
      .nil) (.nil)) <|
    .cons (.ret (.and (.call 8 (.cons (.var 0) .nil)) (.cmp .eq (.bor 0) (.bor 1)))) <|
    .nil
/-- _law_fault(_law_tokens): slots 0 _law_tokens, 1 _law_counts, 2 _law_done, 3 _law_at, 4 _law_token, 5 _law_room, 6 _law_closed -/
def b18 : CSs :=
    .cons (.asg (.name 1) (.lst 1 .nil)) <|
    .cons (.asg (.name 2) (.bl false)) <|
    .cons (.for (.name 3) (.range1 (.bi .len (.cons (.bor 0) .nil))) (.cons (.asg (.name 4) (.idx (.bor 0) (.bor 3))) <|
      .cons (.asg (.name 5) (.and (.not (.bor 2)) (.or (.cmp .eq (.bor 1) (.lst 1 .nil)) (.cmp .lt (.idx (.bor 1) (.neg (.int 1))) (.int 2))))) <|
      .cons (.asg (.name 6) (.bl false)) <|
      .cons (.ifs (.and (.cmp .eq (.bor 4) (.str [40])) (.and (.bor 5) (.cmp .lt (.bi .len (.cons (.bor 1) .nil)) (.int 4)))) (.cons (.app 1 (.int 0)) <|
        .nil) (.cons (.ifs (.and (.cmp .eq (.bor 4) (.str [41])) (.and (.not (.bor 2)) (.and (.cmp .ne (.bor 1) (.lst 1 .nil)) (.cmp .eq (.idx (.bor 1) (.neg (.int 1))) (.int 2))))) (.cons (.pop 1) <|
          .cons (.asg (.name 6) (.bl true)) <|
          .nil) (.cons (.ifs (.and (.cmp .ge (.call 13 (.cons (.var 4) .nil)) (.int 0)) (.bor 5)) (.cons (.asg (.name 6) (.bl true)) <|
            .nil) (.cons (.ret (.bin .add (.bor 3) (.int 1))) <|
            .nil)) <|
          .nil)) <|
        .nil)) <|
      .cons (.ifs (.and (.bor 6) (.cmp .eq (.bor 1) (.lst 1 .nil))) (.cons (.asg (.name 2) (.bl true)) <|
        .nil) (.cons (.ifs (.bor 6) (.cons (.setI 1 (.neg (.int 1)) (.bin .add (.idx (.bor 1) (.neg (.int 1))) (.int 1))) <|
          .nil) (.nil)) <|
        .nil)) <|
      .nil)) <|
    .cons (.ret (.ife (.bor 2) (.int 0) (.bin .add (.bi .len (.cons (.bor 0) .nil)) (.int 1)))) <|
    .nil
/-- _law_joined(_law_tokens): slots 0 _law_tokens, 1 _law_line_here, 2 _law_token -/
def b19 : CSs :=
    .cons (.asg (.name 1) (.str [])) <|
    .cons (.for (.name 2) (.val (.var 0)) (.cons (.ifs (.and (.cmp .ne (.bor 1) (.str [])) (.and (.cmp .ne (.idx (.bor 1) (.neg (.int 1))) (.str [40])) (.cmp .ne (.bor 2) (.str [41])))) (.cons (.asg (.name 1) (.bin .add (.bor 1) (.str [32]))) <|
        .nil) (.nil)) <|
      .cons (.asg (.name 1) (.bin .add (.bor 1) (.bor 2))) <|
      .nil)) <|
    .cons (.ret (.mv 1)) <|
    .nil
/-- _law_values(_law_script): slots 0 _law_script, 1 _law_text_here, 2 _law_tokens, 3 _law_row_here, 4 _law_place, 5 _law_line_here, 6 _law_fault_here, 7 e, 8 _law_value_here, 9 _law_good, 10 _law_scanned, 11 _law_spacing, 12 _law_told -/
def b20 : CSs :=
    .cons (.asg (.tup [8, 9]) (.call 15 (.cons (.var 0) (.cons (.int 14) .nil)))) <|
    .cons (.asg (.name 1) (.call 16 (.cons (.var 8) .nil))) <|
    .cons (.ifs (.and (.bor 9) (.cmp .ne (.call 3 (.cons (.var 8) .nil)) (.bor 1))) (.cons (.ret (.bl false)) <|
      .nil) (.nil)) <|
    .cons (.asg (.name 2) (.idx (.call 9 (.cons (.var 1) .nil)) (.int 0))) <|
    .cons (.asg (.name 3) (.call 7 (.cons (.var 0) (.cons (.int 24) (.cons (.int 3) .nil))))) <|
    .cons (.asg (.name 4) (.bin .mod (.bi .int (.cons (.idx (.bor 3) (.int 1)) .nil)) (.bin .add (.bi .len (.cons (.bor 2) .nil)) (.int 1)))) <|
    .cons (.ifs (.cmp .eq (.bin .mod (.idx (.bor 3) (.int 0)) (.int 6)) (.int 0)) (.cons (.asg (.name 2) (.cat (.sl (.bor 2) .non (.som (.bor 4))) (.sl (.bor 2) (.som (.bin .add (.bor 4) (.int 1))) .non))) <|
      .nil) (.nil)) <|
    .cons (.ifs (.cmp .eq (.bin .mod (.idx (.bor 3) (.int 0)) (.int 6)) (.int 1)) (.cons (.asg (.name 2) (.cat (.cat (.sl (.bor 2) .non (.som (.bor 4))) (.lst 1 (.cons (.idx (.lst 1 (.cons (.str [40]) (.cons (.str [41]) (.cons (.str [53]) (.cons (.str [48, 48, 55]) (.cons (.str [97]) (.cons (.str [49, 48, 48, 48]) .nil))))))) (.bin .mod (.bi .int (.cons (.idx (.bor 3) (.int 2)) .nil)) (.int 6))) .nil))) (.sl (.bor 2) (.som (.bor 4)) .non))) <|
      .nil) (.nil)) <|
    .cons (.ifs (.and (.cmp .eq (.bin .mod (.idx (.bor 3) (.int 0)) (.int 6)) (.int 2)) (.cmp .lt (.bor 4) (.bi .len (.cons (.bor 2) .nil)))) (.cons (.setI 2 (.bor 4) (.idx (.lst 1 (.cons (.str [40]) (.cons (.str [41]) (.cons (.str [48]) (.cons (.str [45, 49]) (.cons (.str [61]) .nil)))))) (.bin .mod (.bi .int (.cons (.idx (.bor 3) (.int 2)) .nil)) (.int 5)))) <|
      .nil) (.nil)) <|
    .cons (.asg (.name 5) (.call 19 (.cons (.var 2) .nil))) <|
    .cons (.asg (.tup [10, 11]) (.call 9 (.cons (.var 5) .nil))) <|
    .cons (.asg (.name 6) (.var 11)) <|
    .cons (.ifs (.cmp .eq (.bor 6) (.int 0)) (.cons (.asg (.name 6) (.call 18 (.cons (.var 10) .nil))) <|
      .nil) (.nil)) <|
    .cons (.ifs (.or (.and (.cmp .eq (.bor 6) (.int 0)) (.cmp .isNot (.call 6 (.cons (.var 5) .nil)) (.bl true))) (.and (.cmp .gt (.bor 6) (.int 0)) (.cmp .isNot (.call 6 (.cons (.var 5) .nil)) (.bl false)))) (.cons (.ret (.bl false)) <|
      .nil) (.nil)) <|
    .cons (.tri (.cons (.asg (.name 12) (.call 5 (.cons (.var 5) .nil))) <|
      .nil) [1] (some 7) (.cons (.ret (.and (.cmp .gt (.bor 6) (.int 0)) (.and (.cmp .eq (.xf 7 [(1, 0)]) (.int 1)) (.cmp .eq (.xf 7 [(1, 1)]) (.bor 6))))) <|
      .nil)) <|
    .cons (.ret (.and (.cmp .eq (.bor 6) (.int 0)) (.and (.or (.cmp .ne (.bor 5) (.bor 1)) (.call 17 (.cons (.var 12) (.cons (.var 8) .nil)))) (.cmp .eq (.call 3 (.cons (.var 12) .nil)) (.bor 5))))) <|
    .nil
/-- law(_law_script): slots 0 _law_script -/
def b21 : CSs :=
    .cons (.ret (.and (.call 12 (.cons (.var 0) .nil)) (.and (.call 14 (.cons (.var 0) .nil)) (.call 20 (.cons (.var 0) .nil))))) <|
    .nil
def tbl : List Fd := [⟨2, 7, b0⟩, ⟨1, 2, b1⟩, ⟨1, 2, b2⟩, ⟨1, 1, b3⟩, ⟨1, 1, b4⟩, ⟨1, 8, b5⟩, ⟨1, 1, b6⟩, ⟨3, 7, b7⟩, ⟨1, 1, b8⟩, ⟨1, 6, b9⟩, ⟨1, 2, b10⟩, ⟨1, 6, b11⟩, ⟨1, 7, b12⟩, ⟨1, 2, b13⟩, ⟨1, 9, b14⟩, ⟨2, 9, b15⟩, ⟨1, 1, b16⟩, ⟨2, 2, b17⟩, ⟨1, 7, b18⟩, ⟨1, 3, b19⟩, ⟨1, 13, b20⟩, ⟨1, 1, b21⟩]
def Tbl : Nat → Option Fd := fun n => tbl[n]?
end K89
end

section
/-! M89: plain: the tokens of a line, numbers, values. -/
namespace K89
open BT
set_option autoImplicit false
abbrev Tkn := List Nat
/-- a sign of a word -/
def od (c : Nat) : Bool := c != 32 && c != 40 && c != 41
def psh (f : List Tkn) (w : Tkn) : List Tkn := if w = [] then f else f ++ [w]
/-- tokens_of: 0 and the tokens, or the token of the fault -/
def run : List Nat → List Tkn → Tkn → Bool → Bool → List Tkn × Nat
  | [], f, w, r, b => if w = [] ∧ b = true then (f, f.length + 1) else (psh f w, 0)
  | c :: l, f, w, r, b =>
    if c = 32 then (if w = [] ∧ r = true then (f, f.length + 1) else run l (psh f w) [] true true)
    else if c = 41 then (if w = [] ∧ b = true then (f, f.length + 1) else run l (psh f w ++ [[41]]) [] false false)
    else if c = 40 then (if w ≠ [] ∨ r = false then (f, f.length + 1 + (w.take 1).length) else run l (f ++ [[40]]) w r false)
    else (if w = [] ∧ r = false then (f, f.length + 1) else run l f (w ++ [c]) false false)
/-- behind a token; g reads on -/
def kont (g : List Nat → List Tkn → List Tkn × Nat) : List Nat → List Tkn → List Tkn × Nat
  | [], f => (f, 0)
  | c :: l, f => if c = 41 then g (c :: l) f else if c = 32 then (match l with
    | [] => (f, f.length + 1)
    | d :: r => if d = 32 ∨ d = 41 then (f, f.length + 1) else g (d :: r) f) else (f, f.length + 1)
/-- the law's reading: n turns -/
def scan : Nat → List Nat → List Tkn → List Tkn × Nat
  | 0, _, f => (f, 0)
  | _ + 1, [], f => (f, 0)
  | n + 1, c :: l, f => if c = 32 then (f, f.length + 1) else if c = 40 then scan n l (f ++ [[40]]) else if c = 41 then kont (scan n) l (f ++ [[41]]) else kont (scan n) (l.dropWhile od) (f ++ [c :: l.takeWhile od])
abbrev scanK (n : Nat) := kont (scan n)
/-- the fault alone, or the tokens -/
def same (a b : List Tkn × Nat) : Prop := a.2 = b.2 ∧ (a.2 = 0 → a.1 = b.1)
theorem same.rfl' {a : List Tkn × Nat} : same a a := ⟨rfl, fun _ => rfl⟩
theorem od_iff {c : Nat} : od c = true ↔ c ≠ 32 ∧ c ≠ 40 ∧ c ≠ 41 := by simp [od]; constructor <;> (rintro h; simp_all)
theorem scan_nil (n : Nat) (f : List Tkn) : scan n [] f = (f, 0) := by cases n <;> simp [scan]
theorem run_scan : ∀ m : Nat,
    (∀ l f n, l.length ≤ m → l.length < n → same (run l f [] true false) (scan n l f)) ∧
    (∀ d r f n, (d :: r).length ≤ m → (d :: r).length < n → d ≠ 32 → d ≠ 41 → same (run (d :: r) f [] true true) (scan n (d :: r) f)) ∧
    (∀ l f n, l.length ≤ m → l.length < n → same (run l f [] false false) (scanK n l f)) ∧
    (∀ l f w n, w ≠ [] → l.length ≤ m → l.length < n → same (run l f w false false) (scanK n (l.dropWhile od) (f ++ [w ++ l.takeWhile od]))) := by
  intro m
  induction m with
  | zero =>
    refine ⟨fun l f n h _ => ?_, fun d r f n h => ?_, fun l f n h _ => ?_, fun l f w n hw h _ => ?_⟩
    · have : l = [] := List.length_eq_zero_iff.mp (by omega)
      subst this
      rw [scan_nil]
      simp [run, psh, same]
    · simp at h
    · have : l = [] := List.length_eq_zero_iff.mp (by omega)
      subst this
      simp [run, psh, same, scanK, kont]
    · have : l = [] := List.length_eq_zero_iff.mp (by omega)
      subst this
      simp [run, psh, same, scanK, kont, hw]
  | succ m ih =>
    obtain ⟨iA, iB, iC, iD⟩ := ih
    -- behind a space
    have sp : ∀ (l : List Nat) (f : List Tkn) (n : Nat), l.length ≤ m → l.length + 1 < n → same (run l f [] true true) (scanK n (32 :: l) f) := by
      intro l f n h1 h2
      cases l with
      | nil => simp [run, scanK, kont, same]
      | cons d r =>
        by_cases e1 : d = 32
        · subst e1; simp [run, scanK, kont, same]
        · by_cases e2 : d = 41
          · subst e2; simp [run, scanK, kont, same]
          · have h := iB d r f n h1 (by simp at h2 ⊢; omega) e1 e2
            have e : scanK n (32 :: d :: r) f = scan n (d :: r) f := by simp [scanK, kont, e1, e2]
            rw [e]; exact h
    have word : ∀ (c : Nat) (l : List Nat) (f : List Tkn) (n : Nat), l.length ≤ m → l.length < n → od c = true → same (run l f [c] false false) (scanK n (l.dropWhile od) (f ++ [c :: l.takeWhile od])) := fun c l f n h1 h2 _ => by
      simpa using iD l f [c] n (by simp) h1 h2
    refine ⟨fun l f n h1 h2 => ?_, fun d r f n h1 h2 n1 n2 => ?_, fun l f n h1 h2 => ?_, fun l f w n hw h1 h2 => ?_⟩
    · cases l with
      | nil => rw [scan_nil]; simp [run, psh, same]
      | cons c l =>
        cases n with
        | zero => simp at h2
        | succ n =>
          simp only [List.length_cons] at h1 h2
          by_cases e1 : c = 32
          · subst e1; simp [run, scan, same]
          · by_cases e2 : c = 40
            · subst e2
              simpa [run, scan] using iA l (f ++ [[40]]) n (by omega) (by omega)
            · by_cases e3 : c = 41
              · subst e3
                simpa [run, scan, psh] using iC l (f ++ [[41]]) n (by omega) (by omega)
              · simpa [run, scan, e1, e2, e3] using word c l f n (by omega) (by omega) (od_iff.mpr ⟨e1, e2, e3⟩)
    · cases n with
      | zero => simp at h2
      | succ n =>
        simp only [List.length_cons] at h1 h2
        by_cases e2 : d = 40
        · subst e2
          simpa [run, scan] using iA r (f ++ [[40]]) n (by omega) (by omega)
        · simpa [run, scan, n1, e2, n2] using word d r f n (by omega) (by omega) (od_iff.mpr ⟨n1, e2, n2⟩)
    · cases l with
      | nil => simp [run, psh, same, scanK, kont]
      | cons c l =>
        simp only [List.length_cons] at h1 h2
        by_cases e1 : c = 32
        · subst e1
          simpa [run, psh] using sp l f n (by omega) (by omega)
        · by_cases e3 : c = 41
          · subst e3
            cases n with
            | zero => omega
            | succ n => simpa [run, scanK, kont, scan, psh] using iC l (f ++ [[41]]) n (by omega) (by omega)
          · by_cases e2 : c = 40
            · subst e2; simp [run, scanK, kont, same]
            · simp [run, scanK, kont, same, e1, e2, e3]
    · cases l with
      | nil => simp [run, psh, same, scanK, kont, hw]
      | cons c l =>
        simp only [List.length_cons] at h1 h2
        by_cases ho : od c = true
        · obtain ⟨e1, e2, e3⟩ := od_iff.mp ho
          have := iD l f (w ++ [c]) n (by simp) (by omega) (by omega)
          simpa [run, e1, e2, e3, hw, ho] using this
        · have ho' : od c = false := by simpa using ho
          by_cases e1 : c = 32
          · subst e1
            simpa [run, psh, hw, ho'] using sp l (f ++ [w]) n (by omega) (by omega)
          · by_cases e3 : c = 41
            · subst e3
              cases n with
              | zero => omega
              | succ n =>
                have h := iC l (f ++ [w] ++ [[41]]) n (by omega) (by omega)
                have e1 : run (41 :: l) f w false false = run l (f ++ [w] ++ [[41]]) [] false false := by simp [run, psh, hw]
                have e2 : scanK (n + 1) ((41 :: l).dropWhile od) (f ++ [w ++ (41 :: l).takeWhile od]) = scanK n l (f ++ [w] ++ [[41]]) := by simp [ho', scanK, kont, scan]
                rw [e1, e2]
                exact h
            · by_cases e2 : c = 40
              · subst e2
                have : (w.take 1).length = 1 := by
                  cases w with
                  | nil => exact absurd rfl hw
                  | cons _ _ => simp
                simp [run, hw, ho', scanK, kont, same, this]
              · exact absurd (od_iff.mpr ⟨e1, e2, e3⟩) ho
/-- the program's reading and the law's -/
theorem run_ok (l : List Nat) : same (run l [] [] true false) (scan (l.length + 1) l []) := (run_scan l.length).1 l [] _ (Nat.le_refl _) (Nat.lt_succ_self _)

/-! ### the tokens told again -/
def J : List Tkn → List Nat
  | [] => []
  | [t] => t
  | t :: u :: ts => t ++ ((if t = [40] ∨ u = [41] then [] else [32]) ++ J (u :: ts))
/-- a token of a line -/
def okT (t : Tkn) : Prop := t = [40] ∨ t = [41] ∨ (t ≠ [] ∧ ∀ c ∈ t, od c = true)
theorem take_drop_od (l : List Nat) : l.takeWhile od ++ l.dropWhile od = l := List.takeWhile_append_dropWhile
/-- what a reading without a fault tells -/
def Good (l : List Nat) (ts : List Tkn) : Prop := J ts = l ∧ (∀ t ∈ ts, okT t) ∧ (l = [] → ts = []) ∧ ∀ c r, l = c :: r → ∃ t us, ts = t :: us ∧ (t = [41] ↔ c = 41) ∧ (c = 40 ↔ t = [40])
theorem scan_good : ∀ (n : Nat) (l : List Nat) (f out : List Tkn), l.length < n → scan n l f = (out, 0) → ∃ ts, out = f ++ ts ∧ Good l ts := by
  intro n
  induction n with
  | zero => intro l f out h; omega
  | succ n ih =>
    intro l f out hl h
    -- a token, then what is behind it
    have key : ∀ (t : Tkn) (r : List Nat) (c : Nat) (l : List Nat), r.length < n → t ++ r = c :: l → okT t → (t = [41] ↔ c = 41) → (c = 40 ↔ t = [40]) → c ≠ 40 → (∀ x q, r = x :: q → od x = false ∨ t = [41]) → scanK n r (f ++ [t]) = (out, 0) → ∃ ts, out = f ++ ts ∧ Good (c :: l) ts := by
      intro t r c l hr e ht k1 k2 n40 hx h
      have t40 : t ≠ [40] := fun z => n40 (k2.mpr z)
      cases r with
      | nil =>
        simp only [scanK, kont, Prod.mk.injEq] at h
        refine ⟨[t], h.1.symm, by simpa [J] using e, fun u m => by simp at m; subst m; exact ht, (fun z => by cases z), fun c' r' z => ?_⟩
        cases z
        exact ⟨t, [], rfl, k1, k2⟩
      | cons x q =>
        simp only [scanK, kont] at h
        by_cases e41 : x = 41
        · rw [if_pos e41] at h
          obtain ⟨ts, rfl, g1, g2, g3, g4⟩ := ih _ _ _ hr h
          obtain ⟨u, us, rfl, q1, q2⟩ := g4 x q rfl
          refine ⟨t :: u :: us, by simp, ?_, fun v m => ?_, (fun z => by cases z), fun c' r' z => ?_⟩
          · simp only [J]
            rw [if_pos (.inr (q1.mpr e41)), g1, List.nil_append]
            exact e
          · rcases List.mem_cons.mp m with rfl | m
            · exact ht
            · exact g2 v m
          · cases z
            exact ⟨t, _, rfl, k1, k2⟩
        · rw [if_neg e41] at h
          by_cases e32 : x = 32
          · rw [if_pos e32] at h
            cases q with
            | nil => simp at h
            | cons d r2 =>
              simp only at h
              by_cases ed : d = 32 ∨ d = 41
              · rw [if_pos ed] at h; simp at h
              · rw [if_neg ed] at h
                obtain ⟨ts, rfl, g1, g2, g3, g4⟩ := ih _ _ _ (by simp at hr ⊢; omega) h
                obtain ⟨u, us, rfl, q1, q2⟩ := g4 d r2 rfl
                refine ⟨t :: u :: us, by simp, ?_, fun v m => ?_, (fun z => by cases z), fun c' r' z => ?_⟩
                · simp only [J]
                  rw [if_neg (fun z => z.elim t40 fun z => ed (.inr (q1.mp z))), g1, ← e, e32]
                  rfl
                · rcases List.mem_cons.mp m with rfl | m
                  · exact ht
                  · exact g2 v m
                · cases z
                  exact ⟨t, _, rfl, k1, k2⟩
          · rw [if_neg e32] at h; simp at h
    cases l with
    | nil =>
      rw [scan_nil] at h
      cases h
      exact ⟨[], by simp, rfl, fun t m => by simp at m, fun _ => rfl, fun c r e => by cases e⟩
    | cons c l =>
      simp only [List.length_cons] at hl
      simp only [scan] at h
      by_cases e1 : c = 32
      · rw [if_pos e1] at h; simp at h
      · rw [if_neg e1] at h
        by_cases e2 : c = 40
        · rw [if_pos e2] at h
          obtain ⟨ts, rfl, g1, g2, g3, g4⟩ := ih l _ _ (by omega) h
          subst e2
          refine ⟨[40] :: ts, by simp, ?_, fun v m => ?_, (fun z => by cases z), fun c' r' z => ?_⟩
          · cases ts with
            | nil => simp only [J] at g1 ⊢; rw [← g1]
            | cons u us => simp only [J, true_or, if_true]; rw [g1]; rfl
          · rcases List.mem_cons.mp m with rfl | m
            · exact .inl rfl
            · exact g2 v m
          · cases z
            exact ⟨_, _, rfl, by simp, by simp⟩
        · rw [if_neg e2] at h
          by_cases e3 : c = 41
          · rw [if_pos e3] at h
            exact key [41] l c l (by omega) (by simp [e3]) (.inr (.inl rfl)) (by simp [e3]) (by simp [e2]) e2 (fun _ _ _ => .inr rfl) h
          · rw [if_neg e3] at h
            have ho := od_iff.mpr ⟨e1, e2, e3⟩
            refine key (c :: l.takeWhile od) (l.dropWhile od) c l ?_ (by simp [take_drop_od]) (.inr (.inr ⟨by simp, fun x m => ?_⟩)) ?_ ?_ e2 (fun x q e => .inl ?_) h
            · have : (l.dropWhile od).length ≤ l.length := (List.dropWhile_sublist _).length_le
              omega
            · rcases List.mem_cons.mp m with rfl | m
              · exact ho
              · exact List.all_eq_true.mp (List.all_takeWhile (p := od) (l := l)) x m
            · constructor
              · intro z; exact absurd (List.cons.inj z).1 e3
              · intro z; exact absurd z e3
            · constructor
              · intro z; exact absurd z e2
              · intro z; exact absurd (List.cons.inj z).1 e2
            · have := List.head?_dropWhile_not od l
              rw [e] at this
              simpa using this
/-- a reading without a fault tells the line -/
theorem scan_J {l : List Nat} {ts : List Tkn} (h : scan (l.length + 1) l [] = (ts, 0)) : J ts = l ∧ ∀ t ∈ ts, okT t := by
  obtain ⟨us, e, g1, g2, _⟩ := scan_good _ l [] ts (Nat.lt_succ_self _) h
  simp at e
  subst e
  exact ⟨g1, g2⟩
end K89
end

section
/-! M89b: plain: numbers and values. -/
namespace K89
open BT
set_option autoImplicit false
/-- number_in -/
def numIn (t : Tkn) : Int := if (1 ≤ t.length ∧ t.length ≤ 3) ∧ ¬ (t.head? = some 48 ∧ 1 < t.length) ∧ t.all isDg = true then (digV t : Nat) else -1
theorem numIn_pos {t : Tkn} (h : 0 ≤ numIn t) : ((1 ≤ t.length ∧ t.length ≤ 3) ∧ ¬ (t.head? = some 48 ∧ 1 < t.length) ∧ t.all isDg = true) ∧ numIn t = (digV t : Nat) := by
  unfold numIn at h ⊢
  by_cases c : (1 ≤ t.length ∧ t.length ≤ 3) ∧ ¬ (t.head? = some 48 ∧ 1 < t.length) ∧ t.all isDg = true
  · exact ⟨c, by rw [if_pos c]⟩
  · rw [if_neg c] at h; omega
theorem str1 : ∀ a : Fin 10, strI ((a.val : Nat) : Int) = [48 + a.val] := by decide +kernel
theorem str2 : ∀ a b : Fin 10, a ≠ 0 → strI ((10 * a.val + b.val : Nat) : Int) = [48 + a.val, 48 + b.val] := by decide +kernel
theorem str3 : ∀ a b c : Fin 10, a ≠ 0 → strI ((100 * a.val + 10 * b.val + c.val : Nat) : Int) = [48 + a.val, 48 + b.val, 48 + c.val] := by decide +kernel
theorem dg_fin {c : Nat} (h : isDg c = true) : ∃ a : Fin 10, c = 48 + a.val := by
  simp [isDg] at h
  exact ⟨⟨c - 48, by omega⟩, by simp; omega⟩
theorem numIn_str {t : Tkn} (h : 0 ≤ numIn t) : ∃ n : Nat, numIn t = n ∧ n < 1000 ∧ strI (n : Int) = t := by
  obtain ⟨⟨⟨h1, h2⟩, h3, h4⟩, e⟩ := numIn_pos h
  refine ⟨digV t, e, ?_⟩
  match t, h1, h2, h3, h4 with
  | [x], _, _, _, h4 =>
    simp only [List.all_cons, List.all_nil, Bool.and_true] at h4
    obtain ⟨a, rfl⟩ := dg_fin h4
    have e : digV [48 + a.val] = a.val := by simp [digV]
    rw [e]
    exact ⟨by omega, str1 a⟩
  | [x, y], _, _, h3, h4 =>
    simp only [List.all_cons, List.all_nil, Bool.and_true, Bool.and_eq_true] at h4
    obtain ⟨a, rfl⟩ := dg_fin h4.1
    obtain ⟨b, rfl⟩ := dg_fin h4.2
    have ha : a ≠ 0 := fun z => h3 (by subst z; simp)
    have e : digV [48 + a.val, 48 + b.val] = 10 * a.val + b.val := by simp [digV]; omega
    rw [e]
    exact ⟨by omega, str2 a b ha⟩
  | [x, y, z], _, _, h3, h4 =>
    simp only [List.all_cons, List.all_nil, Bool.and_true, Bool.and_eq_true] at h4
    obtain ⟨a, rfl⟩ := dg_fin h4.1
    obtain ⟨b, rfl⟩ := dg_fin h4.2.1
    obtain ⟨c, rfl⟩ := dg_fin h4.2.2
    have ha : a ≠ 0 := fun z => h3 (by subst z; simp)
    have e : digV [48 + a.val, 48 + b.val, 48 + c.val] = 100 * a.val + 10 * b.val + c.val := by simp [digV]; omega
    rw [e]
    exact ⟨by omega, str3 a b c ha⟩
/-- a value -/
inductive Vl where
  | num (n : Nat)
  | pr (a b : Vl)
def Vl.d : Vl → D
  | .num n => .int (n : Int)
  | .pr a b => .tup [a.d, b.d]
def vt : Vl → List Nat
  | .num n => strI (n : Int)
  | .pr a b => 40 :: (vt a ++ (32 :: (vt b ++ [41])))
def tks : Vl → List Tkn
  | .num n => [strI (n : Int)]
  | .pr a b => [40] :: (tks a ++ (tks b ++ [[41]]))
def Vl.dp : Vl → Nat
  | .num _ => 0
  | .pr a b => max a.dp b.dp + 1
def Vl.ok (m : Nat) : Vl → Prop
  | .num n => n < m
  | .pr a b => a.ok m ∧ b.ok m
theorem Vl.ok.le {m k : Nat} (h : m ≤ k) : ∀ {v : Vl}, v.ok m → v.ok k
  | .num n, q => Nat.lt_of_lt_of_le q h
  | .pr a b, q => ⟨Vl.ok.le h q.1, Vl.ok.le h q.2⟩
theorem str_all : ∀ n : Fin 1100, (strI ((n.val : Nat) : Int)).all isDg = true ∧ strI ((n.val : Nat) : Int) ≠ [] ∧ digV (strI ((n.val : Nat) : Int)) = n.val ∧ (strI ((n.val : Nat) : Int)).length ≤ 4 := by decide +kernel
theorem str_dg {n : Nat} (h : n < 1100) : (∀ c ∈ strI (n : Int), isDg c = true) ∧ strI (n : Int) ≠ [] ∧ digV (strI (n : Int)) = n ∧ (strI (n : Int)).length ≤ 4 := by
  obtain ⟨h1, h2⟩ := str_all ⟨n, h⟩
  exact ⟨fun c m => List.all_eq_true.mp h1 c m, h2⟩
theorem dg_od {c : Nat} (h : isDg c = true) : od c = true := by
  simp [isDg] at h
  exact od_iff.mpr ⟨by omega, by omega, by omega⟩
/-! ### a value's text is read -/
theorem run_word : ∀ (ds r : List Nat) (f : List Tkn) (w : Tkn), w ≠ [] → (∀ c ∈ ds, od c = true) → run (ds ++ r) f w false false = run r f (w ++ ds) false false
  | [], r, f, w, _, _ => by simp
  | c :: ds, r, f, w, hw, h => by
    obtain ⟨e1, e2, e3⟩ := od_iff.mp (h c (by simp))
    have ih := run_word ds r f (w ++ [c]) (by simp) fun x m => h x (by simp [m])
    simp only [List.append_assoc, List.singleton_append] at ih
    rw [List.cons_append, ← ih]
    simp [run, e1, e2, e3, hw]
def stp (r : List Nat) : Prop := r = [] ∨ ∃ x q, r = x :: q ∧ (x = 32 ∨ x = 41)
theorem run_close {r : List Nat} {f : List Tkn} {w : Tkn} (h : stp r) (hw : w ≠ []) : run r f w false false = run r (f ++ [w]) [] false false := by
  rcases h with rfl | ⟨x, q, rfl, rfl | rfl⟩ <;> simp [run, psh, hw]
theorem run_vt : ∀ (v : Vl) (r : List Nat) (f : List Tkn) (b : Bool), v.ok 1100 → stp r → run (vt v ++ r) f [] true b = run r (f ++ tks v) [] false false
  | .num n, r, f, b, h, hr => by
    obtain ⟨h1, h2, _⟩ := str_dg (show n < 1100 from h)
    simp only [vt, tks]
    cases e : strI (n : Int) with
    | nil => exact absurd e h2
    | cons c ds =>
      rw [e] at h1
      obtain ⟨e1, e2, e3⟩ := od_iff.mp (dg_od (h1 c (by simp)))
      have hw := run_word ds r f [c] (by simp) fun x m => dg_od (h1 x (by simp [m]))
      rw [← run_close hr (by simp), ← List.singleton_append (x := c), ← hw]
      simp [run, e1, e2, e3]
  | .pr a c, r, f, b, h, hr => by
    have ia := run_vt a (32 :: (vt c ++ (41 :: r))) (f ++ [[40]]) false h.1 (.inr ⟨32, _, rfl, .inl rfl⟩)
    have ic := run_vt c (41 :: r) (f ++ [[40]] ++ tks a) true h.2 (.inr ⟨41, _, rfl, .inr rfl⟩)
    have e : vt (.pr a c) ++ r = 40 :: (vt a ++ (32 :: (vt c ++ (41 :: r)))) := by simp [vt]
    have e1 : run (40 :: (vt a ++ (32 :: (vt c ++ (41 :: r))))) f [] true b = run (vt a ++ (32 :: (vt c ++ (41 :: r)))) (f ++ [[40]]) [] true false := by simp [run]
    have e2 : run (32 :: (vt c ++ (41 :: r))) (f ++ [[40]] ++ tks a) [] false false = run (vt c ++ (41 :: r)) (f ++ [[40]] ++ tks a) [] true true := by simp [run, psh]
    have e3 : run (41 :: r) (f ++ [[40]] ++ tks a ++ tks c) [] false false = run r (f ++ tks (.pr a c)) [] false false := by simp [run, psh, tks]
    rw [e, e1, ia, e2, ic, e3]
theorem scan_vt {v : Vl} (h : v.ok 1100) : scan ((vt v).length + 1) (vt v) [] = (tks v, 0) := by
  have h1 := run_vt v [] [] false h (.inl rfl)
  have h2 := run_ok (vt v)
  rw [List.append_nil] at h1
  rw [h1] at h2
  have e : run [] ([] ++ tks v) [] false false = (tks v, 0) := by simp [run, psh]
  rw [e] at h2
  obtain ⟨q1, q2⟩ := h2
  have := q2 rfl
  exact Prod.ext this.symm q1.symm
theorem tks_inj : ∀ (v w : Vl) (r r' : List Tkn), v.ok 1100 → w.ok 1100 → tks v ++ r = tks w ++ r' → v = w ∧ r = r'
  | .num n, .num m, r, r', h1, h2, e => by
    simp only [tks, List.singleton_append, List.cons.injEq] at e
    have a := (str_dg (show n < 1100 from h1)).2.2.1
    have b := (str_dg (show m < 1100 from h2)).2.2.1
    rw [e.1] at a
    have : n = m := a.symm.trans b
    exact ⟨by rw [this], e.2⟩
  | .num n, .pr a b, r, r', h1, h2, e => by
    simp only [tks, List.singleton_append, List.cons_append, List.cons.injEq] at e
    have := (str_dg (show n < 1100 from h1)).1 40 (by rw [e.1]; simp)
    simp [isDg] at this
  | .pr a b, .num n, r, r', h1, h2, e => by
    simp only [tks, List.singleton_append, List.cons_append, List.cons.injEq] at e
    have := (str_dg (show n < 1100 from h2)).1 40 (by rw [← e.1]; simp)
    simp [isDg] at this
  | .pr a b, .pr c d, r, r', h1, h2, e => by
    simp only [tks, List.cons_append, List.cons.injEq, true_and, List.append_assoc] at e
    obtain ⟨rfl, e2⟩ := tks_inj a c _ _ h1.1 h2.1 e
    obtain ⟨rfl, e3⟩ := tks_inj b d _ _ h1.2 h2.2 e2
    simp at e3
    exact ⟨rfl, e3⟩
theorem vt_inj {v w : Vl} (h1 : v.ok 1100) (h2 : w.ok 1100) (e : vt v = vt w) : v = w := by
  have a := scan_vt h1
  have b := scan_vt h2
  rw [e, b] at a
  have : tks w ++ [] = tks v ++ [] := by rw [(Prod.mk.inj a).1]
  exact (tks_inj w v [] [] h2 h1 this).1.symm
theorem vt_len : ∀ (v : Vl) (k : Nat), v.ok 1100 → v.dp ≤ k → (vt v).length + 3 ≤ 7 * 2 ^ k
  | .num n, k, h, _ => by
    have := (str_dg (show n < 1100 from h)).2.2.2
    have := Nat.one_le_two_pow (n := k)
    simp only [vt]; omega
  | .pr a b, 0, h, hk => by simp [Vl.dp] at hk
  | .pr a b, k + 1, h, hk => by
    simp only [Vl.dp] at hk
    have ia := vt_len a k h.1 (by omega)
    have ib := vt_len b k h.2 (by omega)
    simp only [vt, List.length_cons, List.length_append, List.length_nil, Nat.pow_succ]
    omega
/-! ### read_value -/
def more : List (List Vl) → Bool
  | [] => true
  | p :: _ => decide (p.length < 2)
def put (v : Vl) : List (List Vl) → List (List Vl) × Option Vl
  | [] => ([], some v)
  | p :: st => ((p ++ [v]) :: st, none)
def stepT (st : List (List Vl)) (res : Option Vl) (t : Tkn) : Option (List (List Vl) × Option Vl) :=
  if res.isSome then none
  else if t = [40] ∧ st.length < 4 ∧ more st = true then some ([] :: st, none)
  else if t = [41] ∧ more st = false then (match st with
    | (a :: b :: _) :: st' => some (put (.pr a b) st')
    | _ => none)
  else if 0 ≤ numIn t ∧ more st = true then some (put (.num (numIn t).toNat) st)
  else none
/-- 0 and the value, or the token of the fault -/
def rd : List Tkn → Nat → List (List Vl) → Option Vl → Nat × Option Vl
  | [], i, _, none => (i + 1, none)
  | [], _, _, some v => (0, some v)
  | t :: ts, i, st, res => match stepT st res t with
    | none => (i + 1, none)
    | some (st', res') => rd ts (i + 1) st' res'
/-- the open pairs: how deep, how many -/
def lv : List (List Vl) → Prop
  | [] => True
  | p :: st => (∀ v ∈ p, v.dp + (st.length + 1) ≤ 4 ∧ v.ok 1000) ∧ p.length ≤ 2 ∧ more st = true ∧ lv st
def pre (st : List (List Vl)) : List Tkn := st.reverse.flatMap fun p => [40] :: p.flatMap tks
structure Iv (st : List (List Vl)) (res : Option Vl) : Prop where
  l : lv st
  n : st.length ≤ 4
  r : ∀ v, res = some v → st = [] ∧ v.dp ≤ 4 ∧ v.ok 1000
def preR (st : List (List Vl)) : Option Vl → List Tkn
  | none => pre st
  | some v => tks v
theorem put_iv {v : Vl} {st : List (List Vl)} (h : lv st) (hn : st.length ≤ 4) (hd : v.dp + st.length ≤ 4) (ho : v.ok 1000) (hm : more st = true) : Iv (put v st).1 (put v st).2 ∧ preR (put v st).1 (put v st).2 = pre st ++ tks v := by
  cases st with
  | nil => exact ⟨⟨trivial, by simp [put], fun w e => by cases e; exact ⟨rfl, by simpa using hd, ho⟩⟩, by simp [put, preR, pre]⟩
  | cons p st =>
    obtain ⟨h1, h2, h4, h3⟩ := h
    simp only [more, decide_eq_true_eq] at hm
    refine ⟨⟨⟨fun w m => ?_, by simp; omega, h4, h3⟩, hn, fun w e => by cases e⟩, ?_⟩
    · rcases List.mem_append.mp m with m | m
      · exact h1 w m
      · simp at m; subst m
        exact ⟨by simpa [Nat.add_assoc] using hd, ho⟩
    · simp [put, preR, pre]
theorem step_iv {st st' : List (List Vl)} {res res' : Option Vl} {t : Tkn} (h : Iv st res) (e : stepT st res t = some (st', res')) : res = none ∧ Iv st' res' ∧ preR st' res' = pre st ++ [t] := by
  unfold stepT at e
  cases res with
  | some v => simp at e
  | none =>
    simp only [Option.isSome_none, Bool.false_eq_true, if_false] at e
    refine ⟨rfl, ?_⟩
    by_cases c1 : t = [40] ∧ st.length < 4 ∧ more st = true
    · rw [if_pos c1] at e
      cases e
      obtain ⟨rfl, c2, c3⟩ := c1
      exact ⟨⟨⟨fun v m => by simp at m, by simp, c3, h.l⟩, by simp; omega, fun v e => by cases e⟩, by simp [preR, pre]⟩
    · rw [if_neg c1] at e
      by_cases c2 : t = [41] ∧ more st = false
      · rw [if_pos c2] at e
        match st, e, h, c2 with
        | (a :: b :: r) :: st2, e, h, c2 =>
          simp only [Option.some.injEq] at e
          obtain ⟨h1, h2, hm, h3⟩ := h.l
          have hr : r = [] := by
            simp only [List.length_cons] at h2
            exact List.length_eq_zero_iff.mp (by omega)
          subst hr
          have ha := h1 a (by simp)
          have hb := h1 b (by simp)
          have hn := h.n
          simp only [List.length_cons] at hn
          obtain ⟨q1, q2⟩ := put_iv (v := .pr a b) (st := st2) h3 (by omega) (by simp only [Vl.dp]; omega) ⟨ha.2, hb.2⟩ hm
          rw [e] at q1 q2
          refine ⟨q1, q2.trans ?_⟩
          obtain ⟨rfl, _⟩ := c2
          simp [pre, tks]
        | [], e, h, c2 => cases e
        | [] :: _, e, h, c2 => cases e
        | [_] :: _, e, h, c2 => cases e
      · rw [if_neg c2] at e
        by_cases c3 : 0 ≤ numIn t ∧ more st = true
        · rw [if_pos c3] at e
          obtain ⟨n, e1, e2, e3⟩ := numIn_str c3.1
          simp only [Option.some.injEq] at e
          have et : (numIn t).toNat = n := by omega
          rw [et] at e
          obtain ⟨q1, q2⟩ := put_iv (v := .num n) (st := st) h.l h.n (by simp only [Vl.dp]; have := h.n; omega) e2 c3.2
          rw [e] at q1 q2
          exact ⟨q1, q2.trans (by simp [tks, e3])⟩
        · rw [if_neg c3] at e; cases e
theorem rd_ok : ∀ (ts : List Tkn) (i : Nat) (st : List (List Vl)) (res : Option Vl), Iv st res → (rd ts i st res).1 = 0 → ∃ v, (rd ts i st res).2 = some v ∧ v.dp ≤ 4 ∧ v.ok 1000 ∧ preR st res ++ ts = tks v
  | [], i, st, none, h, e => by simp [rd] at e
  | [], i, st, some v, h, e => ⟨v, rfl, (h.r v rfl).2.1, (h.r v rfl).2.2, by simp [preR]⟩
  | t :: ts, i, st, res, h, e => by
    unfold rd at e ⊢
    cases hs : stepT st res t with
    | none => rw [hs] at e; simp at e
    | some q =>
      obtain ⟨st', res'⟩ := q
      rw [hs] at e
      obtain ⟨rfl, q1, q2⟩ := step_iv h hs
      obtain ⟨v, r1, r2, r3, r4⟩ := rd_ok ts (i + 1) st' res' q1 e
      refine ⟨v, r1, r2, r3, ?_⟩
      rw [← r4, q2]
      simp [preR]
theorem rd_fault : ∀ (ts : List Tkn) (i : Nat) (st : List (List Vl)) (res : Option Vl), (rd ts i st res).1 ≤ i + ts.length + 1
  | [], i, st, none => by simp [rd]
  | [], i, st, some v => by simp [rd]
  | t :: ts, i, st, res => by
    unfold rd
    cases hs : stepT st res t with
    | none => simp only [List.length_cons]; omega
    | some q =>
      have := rd_fault ts (i + 1) q.1 q.2
      simp only [List.length_cons]; omega
theorem iv0 : Iv [] none := ⟨trivial, by simp, fun v e => by cases e⟩
/-- a line's value: its text is the line -/
theorem rd_text {l : List Nat} {ts : List Tkn} (h : scan (l.length + 1) l [] = (ts, 0)) (e : (rd ts 0 [] none).1 = 0) : ∃ v, (rd ts 0 [] none).2 = some v ∧ v.dp ≤ 4 ∧ v.ok 1000 ∧ vt v = l := by
  obtain ⟨v, h1, h2, h3, h4⟩ := rd_ok ts 0 [] none iv0 e
  have h4 : ts = tks v := by simpa [preR, pre] using h4
  have a := (scan_J h).1
  have b := (scan_J (scan_vt (h3.le (by decide)))).1
  exact ⟨v, h1, h2, h3, by rw [← b, ← h4, a]⟩
end K89
end

section
set_option pp.maxSteps 1500
namespace BT
theorem ev_ex {C : Nat → List D → Sto → CR} {W : Nat} {a : CS} {r : CSs} {s : S} {Q : Fl → Prop} (P : S → Prop) (h : ∃ s', P s' ∧ evalS C W a s = .next s') (k : ∀ s', P s' → Q (evalSs C W r s')) : Q (evalSs C W (.cons a r) s) := by
  obtain ⟨s', p, e⟩ := h
  rw [ev_next e]
  exact k s' p
theorem ev_one {C : Nat → List D → Sto → CR} {W : Nat} {a : CS} {r : CSs} {s : S} {Q : Fl → Prop} (s' : S) (h : evalS C W a s = .next s') (k : Q (evalSs C W r s')) : Q (evalSs C W (.cons a r) s) := by
  rw [ev_next h]
  exact k
theorem forL_inv {step : D → S → Fl} {I : S → Prop} : ∀ (ds : List D), (∀ d ∈ ds, ∀ s, I s → ∃ s', step d s = .next s' ∧ I s') → ∀ s, I s → ∃ s', forL step ds s = .next s' ∧ I s'
  | [], _, s, i => ⟨s, rfl, i⟩
  | d :: ds, h, s, i => by
    obtain ⟨s1, e, i1⟩ := h d (by simp) s i
    rw [forL_next e]
    exact forL_inv ds (fun x m => h x (by simp [m])) s1 i1
theorem ev_for {C : Nat → List D → Sto → CR} {W : Nat} {t : Tg} {it : CI} {b : CSs} {s s1 : S} {ds : List D} {F : Fl} (h : evalI C it s = .ok ds s1)
    (k : forL (fun d s2 => match assign t 0 d s2 with
      | some s3 => evalSs C W b s3
      | none => .err) ds s1 = F) : evalS C W (.for t it b) s = F := by
  rw [evalS, h]
  exact k
theorem forL_exc {step : D → S → Fl} {d : D} {ds : List D} {s s' : S} {x : Exc} (h : step d s = .exc x s') : forL step (d :: ds) s = .exc x s' := by
  show (match step d s with | .next s' => forL step ds s' | .cont s' => forL step ds s' | .brk s' => .next s' | r => r) = _
  rw [h]
theorem ev_exc {C : Nat → List D → Sto → CR} {W : Nat} {a : CS} {r : CSs} {s s' : S} {x : Exc} (h : evalS C W a s = .exc x s') : evalSs C W (.cons a r) s = .exc x s' := by
  simp [evalSs, h]
def nth : CSs → Nat → CS
  | .nil, _ => .pass
  | .cons a _, 0 => a
  | .cons _ r, n + 1 => nth r n
def forB : CS → CSs
  | .for _ _ b => b
  | _ => .nil
end BT
namespace K89
open BT
variable {W n : Nat} {sto : Sto} {C : Nat → List D → Sto → CR}
theorem scal_if {α : Type} (d : D) (x : α) : (if scal d = true then x else x) = x := by split <;> rfl
theorem isD_nn : isD .non .non = some true := rfl
theorem isD_bb (a b : Bool) : isD (.bl a) (.bl b) = some (decide (a = b)) := rfl
theorem isN (i : Int) : isD (.int i) .non = some false := rfl
theorem eqs (a b : List Nat) : eqD (.str a) (.str b) = some (decide (a = b)) := by simp [eqD, okD, plain, dep, eqB]
theorem eqi (a b : Int) : eqD (.int a) (.int b) = some (decide (a = b)) := by simp [eqD, okD, plain, dep, eqB]
abbrev tl (ts : List Tkn) : D := .lst (ts.map .str)
theorem lenl (ts : List D) : biD .len [.lst ts] = some (.int ts.length) := rfl
theorem lens {t : List Nat} (h : t.length ≤ 1000000) : biD .len [.str t] = some (.int t.length) := by simp [biD, h, LIM]
theorem adds {a b : List Nat} (h : a.length + b.length ≤ 1000000) : binop .add (.str a) (.str b) = some (.str (a ++ b)) := by simp [binop, h, LIM]
theorem log_small {i : Nat} (h : i < 1000000) : ((i : Int)).natAbs.log2 < 1920 := by
  by_cases h0 : (i : Int).natAbs = 0
  · rw [h0]; decide
  · have := (Nat.log2_lt h0).mpr (show (i : Int).natAbs < 2 ^ 1920 from Nat.lt_of_lt_of_le (show (i : Int).natAbs < 2 ^ 20 by simp; omega) (Nat.pow_le_pow_right (by decide) (by decide)))
    exact this
/-! ### tokens_of -/
def bd0 : CSs := forB (nth b0 4)
abbrev t0 (L : List Nat) (k : Int) (f : List Tkn) (w : Tkn) (r b : Bool) (sg : Option (Nat × D)) (sto : Sto) : S := ⟨[some (0, .str L), some (0, .int k), some (1, tl f), some (0, .str w), some (0, .bl r), some (0, .bl b), sg], sto⟩
theorem stp0 {L : List Nat} {k : Int} {f : List Tkn} {w : Tkn} {r b : Bool} {c : Nat} (hk : k.natAbs.log2 < 1920) (hf : f.length < 900000) (hw : w.length < 900000) :
    (∃ (f' : List Tkn) (w' : Tkn) (r' b' : Bool) (sg : Option (Nat × D)), evalSs C W bd0 (t0 L k f w r b (some (0, .str [c])) sto) = .next (t0 L k f' w' r' b' sg sto) ∧ (∀ l, run (c :: l) f w r b = run l f' w' r' b') ∧ f'.length ≤ f.length + 2 ∧ w'.length ≤ w.length + 1) ∨
    (∃ (m : Nat) (s' : S), evalSs C W bd0 (t0 L k f w r b (some (0, .str [c])) sto) = .exc ⟨1, [.int k, .int (m + 1 : Nat)]⟩ s' ∧ s'.sto = sto ∧ (∀ l, (run (c :: l) f w r b).2 = m + 1)) := by
  have hl := log_small (i := f.length + 1) (by omega)
  have hl2 := log_small (i := f.length + 2) (by omega)
  have hl : ((f.length : Int) + 1).natAbs.log2 < 1920 := by simpa using hl
  by_cases e1 : c = 32
  · subst e1
    by_cases c1 : w = []
    · subst c1
      cases r with
      | true =>
        refine .inr ⟨f.length, t0 L k f [] true b (some (0, .str [32])) sto, ?_, rfl, fun l => by simp [run]⟩
        simp [bd0, b0, nth, forB, evalSs, evalS, evalT, evalE, evalEs, Out.bind, Out.fl, EV.d, EV.free, EV.fit, BT.fit, lift, liftB, cmpop, truth, assign, optFl, Fl.call, isD_nn, isD_bb, isN, scal_if, LIM, eqs, lenl, binop_add, okF, hk, hl]
      | false =>
        refine .inl ⟨f, [], true, true, some (0, .str [32]), ?_, fun l => by simp [run, psh], by omega, by simp⟩
        simp [bd0, b0, nth, forB, evalSs, evalS, evalT, evalE, evalEs, Out.bind, Out.fl, EV.d, EV.free, EV.fit, BT.fit, lift, liftB, cmpop, truth, assign, optFl, Fl.call, isD_nn, isD_bb, isN, scal_if, LIM, eqs, lenl, binop_add, okF, hk, hl]
    · refine .inl ⟨f ++ [w], [], true, true, some (0, .str [32]), ?_, fun l => by simp [run, psh, c1], by simp, by simp⟩
      have : f.length < 1000000 := by omega
      simp [bd0, b0, nth, forB, evalSs, evalS, evalT, evalE, evalEs, Out.bind, Out.fl, EV.d, EV.free, EV.fit, BT.fit, lift, liftB, cmpop, truth, assign, optFl, Fl.call, isD_nn, isD_bb, isN, scal_if, LIM, eqs, lenl, binop_add, okF, hk, hl, c1, scal, this]
  · by_cases e2 : c = 41
    · subst e2
      by_cases c1 : w = []
      · subst c1
        cases b with
        | true =>
          refine .inr ⟨f.length, t0 L k f [] r true (some (0, .str [41])) sto, ?_, rfl, fun l => by simp [run]⟩
          simp [bd0, b0, nth, forB, evalSs, evalS, evalT, evalE, evalEs, Out.bind, Out.fl, EV.d, EV.free, EV.fit, BT.fit, lift, liftB, cmpop, truth, assign, optFl, Fl.call, isD_nn, isD_bb, isN, scal_if, LIM, eqs, lenl, binop_add, okF, hk, hl]
        | false =>
          refine .inl ⟨f ++ [[41]], [], false, false, some (0, .str [41]), ?_, fun l => by simp [run, psh], by simp, by simp⟩
          have : f.length < 1000000 := by omega
          simp [bd0, b0, nth, forB, evalSs, evalS, evalT, evalE, evalEs, Out.bind, Out.fl, EV.d, EV.free, EV.fit, BT.fit, lift, liftB, cmpop, truth, assign, optFl, Fl.call, isD_nn, isD_bb, isN, scal_if, LIM, eqs, lenl, binop_add, okF, hk, hl, scal, this]
      · refine .inl ⟨f ++ [w] ++ [[41]], [], false, false, some (0, .str [41]), ?_, fun l => by simp [run, psh, c1], by simp, by simp⟩
        have h1 : f.length < 1000000 := by omega
        have h2 : f.length + 1 < 1000000 := by omega
        simp [bd0, b0, nth, forB, evalSs, evalS, evalT, evalE, evalEs, Out.bind, Out.fl, EV.d, EV.free, EV.fit, BT.fit, lift, liftB, cmpop, truth, assign, optFl, Fl.call, isD_nn, isD_bb, isN, scal_if, LIM, eqs, lenl, binop_add, okF, hk, hl, c1, scal, h1, h2]
    · by_cases e3 : c = 40
      · subst e3
        by_cases c1 : w = []
        · subst c1
          cases r with
          | true =>
            refine .inl ⟨f ++ [[40]], [], true, false, some (0, .str [40]), ?_, fun l => by simp [run, psh], by simp, by simp⟩
            have : f.length < 1000000 := by omega
            simp [bd0, b0, nth, forB, evalSs, evalS, evalT, evalE, evalEs, Out.bind, Out.fl, EV.d, EV.free, EV.fit, BT.fit, lift, liftB, cmpop, truth, assign, optFl, Fl.call, isD_nn, isD_bb, isN, scal_if, LIM, eqs, lenl, binop_add, okF, hk, hl, scal, this]
          | false =>
            refine .inr ⟨f.length, t0 L k f [] false b (some (0, .str [40])) sto, ?_, rfl, fun l => by simp [run]⟩
            simp [bd0, b0, nth, forB, evalSs, evalS, evalT, evalE, evalEs, Out.bind, Out.fl, EV.d, EV.free, EV.fit, BT.fit, lift, liftB, cmpop, truth, assign, optFl, Fl.call, isD_nn, isD_bb, isN, scal_if, LIM, eqs, lenl, lens, binop_add, okF, hk, hl, evalO, cutD, sx]
        · obtain ⟨x, w', rfl⟩ : ∃ x w', w = x :: w' := by
            cases w with
            | nil => exact absurd rfl c1
            | cons x w' => exact ⟨x, w', rfl⟩
          refine .inr ⟨f.length + 1, t0 L k f (x :: w') r b (some (0, .str [40])) sto, ?_, rfl, fun l => by simp [run]⟩
          have h3 : (x :: w').length ≤ 1000000 := by omega
          have hl2 : ((f.length : Int) + 1 + 1).natAbs.log2 < 1920 := by
            have e : ((f.length + 2 : Nat) : Int) = (f.length : Int) + 1 + 1 := by omega
            rw [e] at hl2; exact hl2
          have h4 : w'.length + 1 ≤ 1000000 := by simpa using h3
          have h5 : min 1 (w'.length + 1) = 1 := by omega
          simp [bd0, b0, nth, forB, evalSs, evalS, evalT, evalE, evalEs, Out.bind, Out.fl, EV.d, EV.free, EV.fit, BT.fit, lift, liftB, cmpop, truth, assign, optFl, Fl.call, isD_nn, isD_bb, isN, scal_if, LIM, eqs, lenl, lens, binop_add, okF, hk, hl2, evalO, cutD, sx, h4, h5]
      · by_cases c1 : w = [] ∧ r = false
        · obtain ⟨rfl, rfl⟩ := c1
          refine .inr ⟨f.length, t0 L k f [] false b (some (0, .str [c])) sto, ?_, rfl, fun l => by simp [run, e1, e2, e3]⟩
          simp [bd0, b0, nth, forB, evalSs, evalS, evalT, evalE, evalEs, Out.bind, Out.fl, EV.d, EV.free, EV.fit, BT.fit, lift, liftB, cmpop, truth, assign, optFl, Fl.call, isD_nn, isD_bb, isN, scal_if, LIM, eqs, lenl, lens, binop_add, okF, hk, hl, e1, e2, e3]
        · refine .inl ⟨f, w ++ [c], false, false, some (0, .str [c]), ?_, fun l => by simp only [run, e1, e2, e3, c1, if_false], by omega, by simp⟩
          have ha := adds (a := w) (b := [c]) (by simp; omega)
          by_cases c2 : w = []
          · have c3 : r = true := by
              cases r with
              | true => rfl
              | false => exact absurd ⟨c2, rfl⟩ c1
            subst c2 c3
            simp [bd0, b0, nth, forB, evalSs, evalS, evalT, evalE, evalEs, Out.bind, Out.fl, EV.d, EV.free, EV.fit, BT.fit, lift, liftB, cmpop, truth, assign, optFl, Fl.call, isD_nn, isD_bb, isN, scal_if, LIM, eqs, lenl, lens, binop_add, okF, hk, hl, e1, e2, e3, ha]
          · simp [bd0, b0, nth, forB, evalSs, evalS, evalT, evalE, evalEs, Out.bind, Out.fl, EV.d, EV.free, EV.fit, BT.fit, lift, liftB, cmpop, truth, assign, optFl, Fl.call, isD_nn, isD_bb, isN, scal_if, LIM, eqs, lenl, lens, binop_add, okF, hk, hl, e1, e2, e3, ha, c2]
theorem loop0 {L : List Nat} {k : Int} (hk : k.natAbs.log2 < 1920) : ∀ (l : List Nat) (f : List Tkn) (w : Tkn) (r b : Bool) (sg : Option (Nat × D)), f.length + 2 * l.length < 800000 → w.length + l.length < 800000 →
    (∃ (f' : List Tkn) (w' : Tkn) (r' b' : Bool) (sg' : Option (Nat × D)), forL (fun d s2 => match assign (.name 6) 0 d s2 with
        | some s3 => evalSs C W bd0 s3
        | none => .err) (l.map fun c => .str [c]) (t0 L k f w r b sg sto) = .next (t0 L k f' w' r' b' sg' sto) ∧ run l f w r b = run [] f' w' r' b' ∧ f'.length < 900000 ∧ w'.length < 900000) ∨
    (∃ (m : Nat) (s' : S), forL (fun d s2 => match assign (.name 6) 0 d s2 with
        | some s3 => evalSs C W bd0 s3
        | none => .err) (l.map fun c => .str [c]) (t0 L k f w r b sg sto) = .exc ⟨1, [.int k, .int (m + 1 : Nat)]⟩ s' ∧ s'.sto = sto ∧ (run l f w r b).2 = m + 1)
  | [], f, w, r, b, sg, h1, h2 => .inl ⟨f, w, r, b, sg, rfl, rfl, by simp at h1; omega, by simp at h2; omega⟩
  | c :: l, f, w, r, b, sg, h1, h2 => by
    simp only [List.length_cons] at h1 h2
    have ha : assign (.name 6) 0 (.str [c]) (t0 L k f w r b sg sto) = some (t0 L k f w r b (some (0, .str [c])) sto) := by simp [assign]
    rcases stp0 (L := L) (W := W) (C := C) (sto := sto) (f := f) (w := w) (r := r) (b := b) (c := c) hk (by omega) (by omega) with ⟨f', w', r', b', sg', g1, g2, g3, g4⟩ | ⟨m, s', g1, g2, g3⟩
    · rcases loop0 hk l f' w' r' b' sg' (by omega) (by omega) with ⟨f2, w2, r2, b2, sg2, q1, q2, q3, q4⟩ | ⟨m, s', q1, q2, q3⟩
      · refine .inl ⟨f2, w2, r2, b2, sg2, ?_, (g2 l).trans q2, q3, q4⟩
        rw [List.map_cons, forL_next (by simp only [ha]; exact g1)]
        exact q1
      · refine .inr ⟨m, s', ?_, q2, by rw [g2 l]; exact q3⟩
        rw [List.map_cons, forL_next (by simp only [ha]; exact g1)]
        exact q1
    · refine .inr ⟨m, s', ?_, g2, g3 l⟩
      rw [List.map_cons, forL_exc (by simp only [ha]; exact g1)]
/-- what a call of tokens_of gives -/
def tokR (k : Int) (sto : Sto) (q : List Tkn × Nat) : CR := if q.2 = 0 then .ok 1 (tl q.1) sto else .exc ⟨1, [.int k, .int (q.2 : Nat)]⟩ sto
theorem tokR_same {k : Int} {a b : List Tkn × Nat} (h : same a b) : tokR k sto a = tokR k sto b := by
  unfold tokR
  obtain ⟨h1, h2⟩ := h
  by_cases e : a.2 = 0
  · rw [if_pos e, if_pos (by rw [← h1]; exact e), h2 e]
  · rw [if_neg e, if_neg (by rw [← h1]; exact e), h1]
theorem tok_run {L : List Nat} {k : Int} (hk : k.natAbs.log2 < 1920) (hL : L.length < 100000) : callF Tbl W (n + 1) 0 [.str L, .int k] sto = tokR k sto (run L [] [] true false) := by
  rw [callF_eq (fd := ⟨2, 7, b0⟩) rfl rfl (by decide)]
  have e0 : evalSs (callF Tbl W n) W b0 ⟨[some (0, .str L), some (0, .int k), none, none, none, none, none], sto⟩ = evalSs (callF Tbl W n) W (.cons (nth b0 4) (.cons (nth b0 5) (.cons (nth b0 6) (.cons (nth b0 7) .nil)))) (t0 L k [] [] true false none sto) := by
    have hb : b0 = .cons (nth b0 0) (.cons (nth b0 1) (.cons (nth b0 2) (.cons (nth b0 3) (.cons (nth b0 4) (.cons (nth b0 5) (.cons (nth b0 6) (.cons (nth b0 7) .nil))))))) := rfl
    rw [hb, ev_next (s' := ⟨[some (0, .str L), some (0, .int k), some (1, tl []), none, none, none, none], sto⟩) (by simp [b0, nth, evalSs, evalS, evalT, evalE, evalEs, Out.bind, Out.fl, EV.d, EV.free, EV.fit, BT.fit, lift, liftB, cmpop, truth, assign, optFl, Fl.call, isD_nn, isD_bb, isN, scal_if, LIM]), ev_next (s' := ⟨[some (0, .str L), some (0, .int k), some (1, tl []), some (0, .str []), none, none, none], sto⟩) (by simp [b0, nth, evalSs, evalS, evalT, evalE, evalEs, Out.bind, Out.fl, EV.d, EV.free, EV.fit, BT.fit, lift, liftB, cmpop, truth, assign, optFl, Fl.call, isD_nn, isD_bb, isN, scal_if, LIM]),
      ev_next (s' := ⟨[some (0, .str L), some (0, .int k), some (1, tl []), some (0, .str []), some (0, .bl true), none, none], sto⟩) (by simp [b0, nth, evalSs, evalS, evalT, evalE, evalEs, Out.bind, Out.fl, EV.d, EV.free, EV.fit, BT.fit, lift, liftB, cmpop, truth, assign, optFl, Fl.call, isD_nn, isD_bb, isN, scal_if, LIM]), ev_next (s' := t0 L k [] [] true false none sto) (by simp [b0, nth, evalSs, evalS, evalT, evalE, evalEs, Out.bind, Out.fl, EV.d, EV.free, EV.fit, BT.fit, lift, liftB, cmpop, truth, assign, optFl, Fl.call, isD_nn, isD_bb, isN, scal_if, LIM])]
    rfl
  have e1 : (evalSs (callF Tbl W n) W b0 ⟨[some (0, .str L), some (0, .int k), none, none, none, none, none], sto⟩).call = tokR k sto (run L [] [] true false) := by
    rw [e0]
    have hi : evalI (callF Tbl W n) (.val (.var 0)) (t0 L k [] [] true false none sto) = .ok (L.map fun c => .str [c]) (t0 L k [] [] true false none sto) := by
      simp [evalI, evalSs, evalS, evalT, evalE, evalEs, Out.bind, Out.fl, EV.d, EV.free, EV.fit, BT.fit, lift, liftB, cmpop, truth, assign, optFl, Fl.call, isD_nn, isD_bb, isN, scal_if, LIM]
    have hf : nth b0 4 = .for (.name 6) (.val (.var 0)) bd0 := rfl
    rcases loop0 (L := L) (W := W) (C := callF Tbl W n) (sto := sto) hk L [] [] true false none (by simp; omega) (by simp; omega) with ⟨f, w, r, b, sg, q1, q2, q3, q4⟩ | ⟨m, s', q1, q2, q3⟩
    · rw [ev_next (by rw [hf]; exact ev_for hi q1), q2]
      have hl := log_small (i := f.length + 1) (by omega)
      have hl : ((f.length : Int) + 1).natAbs.log2 < 1920 := by simpa using hl
      have hlt : f.length < 1000000 := by omega
      by_cases c1 : w = []
      · subst c1
        cases b with
        | true => simp [b0, nth, evalSs, evalS, evalT, evalE, evalEs, Out.bind, Out.fl, EV.d, EV.free, EV.fit, BT.fit, lift, liftB, cmpop, truth, assign, optFl, Fl.call, isD_nn, isD_bb, isN, scal_if, LIM, eqs, lenl, binop_add, okF, hk, hl, tokR, run]
        | false => simp [b0, nth, evalSs, evalS, evalT, evalE, evalEs, Out.bind, Out.fl, EV.d, EV.free, EV.fit, BT.fit, lift, liftB, cmpop, truth, assign, optFl, Fl.call, isD_nn, isD_bb, isN, scal_if, LIM, eqs, lenl, binop_add, okF, hk, hl, tokR, run, psh]
      · simp [b0, nth, evalSs, evalS, evalT, evalE, evalEs, Out.bind, Out.fl, EV.d, EV.free, EV.fit, BT.fit, lift, liftB, cmpop, truth, assign, optFl, Fl.call, isD_nn, isD_bb, isN, scal_if, LIM, eqs, lenl, binop_add, okF, hk, hl, tokR, run, psh, c1, scal, hlt]
    · rw [ev_exc (by rw [hf]; exact ev_for hi q1)]
      have : (run L [] [] true false).2 ≠ 0 := by omega
      unfold tokR
      rw [if_neg this, q3, ← q2]
      rfl
  exact e1
/-- .. as the law reads -/
theorem tok_ok {L : List Nat} {k : Int} (hk : k.natAbs.log2 < 1920) (hL : L.length < 100000) : callF Tbl W (n + 1) 0 [.str L, .int k] sto = tokR k sto (scan (L.length + 1) L []) := by
  rw [tok_run hk hL, tokR_same (run_ok L)]
end K89
end

section
set_option pp.maxSteps 1500
namespace K89
open BT
variable {W n : Nat} {sto : Sto} {C : Nat → List D → Sto → CR}
theorem inS1 (c : Nat) (t : List Nat) : inS (.str [c]) (.str t) = some (t.contains c) := rfl
theorem idx_str {L l : List Nat} {a c : Nat} (hL : L.length ≤ 1000000) (h : L.drop a = c :: l) : idxD (.str L) (.int (a : Int)) = some (.str [c]) := by
  have ha : a < L.length := by
    by_cases q : a < L.length
    · exact q
    · rw [List.drop_eq_nil_of_le (by omega)] at h; cases h
  have hc : L[a]? = some c := by
    have := congrArg List.head? h
    rw [List.head?_drop] at this
    simpa using this
  simp [idxD, LIM, hL, ixN_nat ha, hc]
theorem cut_drop {L : List Nat} {a : Nat} (h : a ≤ L.length) : cutD L (some (a : Int)) none = L.drop a := by
  unfold cutD sx
  simp only
  rw [if_neg (by omega)]
  have : min ((a : Int)).toNat L.length = a := by simp; omega
  rw [this]
  exact List.take_of_length_le (by simp)
theorem cut_mid {L : List Nat} {a b : Nat} (h : a ≤ b) (hb : b ≤ L.length) : cutD L (some (a : Int)) (some (b : Int)) = (L.drop a).take (b - a) := by
  unfold cutD sx
  simp only
  rw [if_neg (by omega), if_neg (by omega)]
  have e1 : min ((a : Int)).toNat L.length = a := by simp; omega
  have e2 : min ((b : Int)).toNat L.length = b := by simp; omega
  rw [e1, e2]
theorem idx_last (f : List Tkn) (t : Tkn) : idxD (tl (f ++ [t])) (.int (-1)) = some (.str t) := by
  have h : ixN (f.length + 1) (-1) = some f.length := by
    unfold ixN
    rw [if_neg (by omega), if_pos (by omega)]
    congr 1
    omega
  simp only [tl, List.map_append, List.map_cons, List.map_nil, idxD, List.length_append, List.length_map, List.length_cons, List.length_nil]
  rw [h]
  simp
/-! ### _law_scan -/
def bd9 : CSs := forB (nth b9 2)
abbrev t9 (L : List Nat) (f : List Tkn) (A : Int) (x3 x4 x5 : Option (Nat × D)) (sto : Sto) : S := ⟨[some (0, .str L), some (1, tl f), some (0, .int A), x3, x4, x5], sto⟩
def bd9i : CSs := forB (nth (match nth bd9 3 with | .ifs _ a _ => a | _ => .nil) 0)
def tl9 : CSs := .cons (nth bd9 4) (.cons (nth bd9 5) (.cons (nth bd9 6) (.cons (nth bd9 7) (.cons (nth bd9 8) .nil))))
theorem inner9 {L : List Nat} {f : List Tkn} {A : Int} {x3 : Option (Nat × D)} : ∀ (l : List Nat) (E : Int) (x5 : Option (Nat × D)), ∃ y5, forL (fun d s2 => match assign (.name 5) 0 d s2 with
        | some s3 => evalSs C W bd9i s3
        | none => .err) (l.map fun c => .str [c]) (t9 L f A x3 (some (0, .int E)) x5 sto) = .next (t9 L f A x3 (some (0, .int (E + ((l.takeWhile od).length : Int)))) y5 sto)
  | [], E, x5 => ⟨x5, by simp [forL_nil]⟩
  | c :: l, E, x5 => by
    have ha : assign (.name 5) 0 (.str [c]) (t9 L f A x3 (some (0, .int E)) x5 sto) = some (t9 L f A x3 (some (0, .int E)) (some (0, .str [c])) sto) := by simp [assign]
    by_cases h : od c = true
    · obtain ⟨y5, e⟩ := inner9 (L := L) (f := f) (A := A) (x3 := x3) l (E + 1) (some (0, .str [c]))
      refine ⟨y5, ?_⟩
      rw [List.map_cons, forL_next (s' := t9 L f A x3 (some (0, .int (E + 1))) (some (0, .str [c])) sto) ?_, e]
      · simp only [List.takeWhile_cons, h, if_true, List.length_cons]
        rw [show E + 1 + (((l.takeWhile od).length : Nat) : Int) = E + (((l.takeWhile od).length + 1 : Nat) : Int) by omega]
      · simp only [ha]
        obtain ⟨e1, e2, e3⟩ := od_iff.mp h
        simp [bd9i, bd9, b9, nth, forB, evalSs, evalS, evalT, evalE, evalEs, Out.bind, Out.fl, EV.d, EV.free, EV.fit, BT.fit, lift, liftB, cmpop, truth, assign, optFl, Fl.call, isD_nn, isD_bb, isN, scal_if, LIM, inS1, e1, e2, e3, binop_add]
    · have h' : od c = false := by simpa using h
      refine ⟨some (0, .str [c]), ?_⟩
      rw [List.map_cons, forL_brk (s' := t9 L f A x3 (some (0, .int E)) (some (0, .str [c])) sto) ?_]
      · simp [h']
      · simp only [ha]
        have hc : c = 32 ∨ c = 40 ∨ c = 41 := by
          have : ¬ (c ≠ 32 ∧ c ≠ 40 ∧ c ≠ 41) := fun q => h (od_iff.mpr q)
          omega
        simp [bd9i, bd9, b9, nth, forB, evalSs, evalS, evalT, evalE, evalEs, Out.bind, Out.fl, EV.d, EV.free, EV.fit, BT.fit, lift, liftB, cmpop, truth, assign, optFl, Fl.call, isD_nn, isD_bb, isN, scal_if, LIM, inS1, hc, binop_add]
def rs9 (sto : Sto) (q : List Tkn × Nat) : Fl := .ret (if q.2 = 0 then 2 else 1) (.tup [tl q.1, .int (q.2 : Nat)]) sto
/-- behind the token -/
theorem tail9 {L : List Nat} {f : List Tkn} {a b : Nat} {t : Tkn} {r : List Nat} {x3 x5 : Option (Nat × D)} (hL : L.length ≤ 1000000) (hf : f.length < 900000) (hb : b ≤ L.length) (hc : cutD L (some (a : Int)) (some (b : Int)) = t) (hr : L.drop b = r) :
    (t = [40] → evalSs C W tl9 (t9 L f a x3 (some (0, .int (b : Int))) x5 sto) = .cont (t9 L (f ++ [t]) b x3 (some (0, .int (b : Int))) x5 sto)) ∧
    (t ≠ [40] → (r = [] ∨ r.head? = some 41) → evalSs C W tl9 (t9 L f a x3 (some (0, .int (b : Int))) x5 sto) = .cont (t9 L (f ++ [t]) b x3 (some (0, .int (b : Int))) x5 sto)) ∧
    (t ≠ [40] → ∀ d q, r = 32 :: d :: q → ¬ (d = 32 ∨ d = 41) → evalSs C W tl9 (t9 L f a x3 (some (0, .int (b : Int))) x5 sto) = .next (t9 L (f ++ [t]) ((b : Int) + 1) x3 (some (0, .int (b : Int))) x5 sto)) ∧
    (t ≠ [40] → ((∃ d q, r = 32 :: d :: q ∧ (d = 32 ∨ d = 41)) ∨ r = [32] ∨ ∃ d q, r = d :: q ∧ d ≠ 32 ∧ d ≠ 41) → evalSs C W tl9 (t9 L f a x3 (some (0, .int (b : Int))) x5 sto) = rs9 sto (f ++ [t], (f ++ [t]).length + 1)) := by
  have hlt : f.length < 1000000 := by omega
  have hil := idx_last f t
  simp only [tl, List.map_append, List.map_cons, List.map_nil] at hil
  have hlen := lens hL
  have hlb : r = [] ↔ b = L.length := by
    rw [← hr, List.drop_eq_nil_iff]
    omega
  refine ⟨fun h => ?_, fun h hq => ?_, fun h d q e hd => ?_, fun h hq => ?_⟩
  · subst h
    simp [tl9, bd9, b9, nth, forB, evalSs, evalS, evalT, evalE, evalEs, Out.bind, Out.fl, EV.d, EV.free, EV.fit, BT.fit, lift, liftB, cmpop, truth, assign, optFl, Fl.call, isD_nn, isD_bb, isN, scal_if, LIM, evalO, hL, hc, scal, hlt, hil, eqs]
  · rcases hq with e | e
    · have this : ((b : Int) = (L.length : Int)) = True := eq_true (by rw [hlb.mp e])
      simp [tl9, bd9, b9, nth, forB, evalSs, evalS, evalT, evalE, evalEs, Out.bind, Out.fl, EV.d, EV.free, EV.fit, BT.fit, lift, liftB, cmpop, truth, assign, optFl, Fl.call, isD_nn, isD_bb, isN, scal_if, LIM, evalO, hL, hc, scal, hlt, hil, eqs, eqi, h, hlen, this]
    · obtain ⟨q, e⟩ : ∃ q, r = 41 :: q := by
        cases r with
        | nil => simp at e
        | cons x q => simp at e; exact ⟨q, by rw [e]⟩
      have hne : ¬ (b : Int) = (L.length : Int) := fun z => by
        have := hlb.mpr (by omega)
        rw [e] at this; cases this
      have hi := idx_str hL (hr.trans e)
      simp [tl9, bd9, b9, nth, forB, evalSs, evalS, evalT, evalE, evalEs, Out.bind, Out.fl, EV.d, EV.free, EV.fit, BT.fit, lift, liftB, cmpop, truth, assign, optFl, Fl.call, isD_nn, isD_bb, isN, scal_if, LIM, evalO, hL, hc, scal, hlt, hil, eqs, eqi, h, hlen, hne, hi]
  · have hne : ¬ (b : Int) = (L.length : Int) := fun z => by
      have := hlb.mpr (by omega)
      rw [e] at this; cases this
    have hi := idx_str hL (hr.trans e)
    have hd1 : L.drop (b + 1) = d :: q := by
      rw [← List.drop_drop, hr, e]; rfl
    have hi1 := idx_str hL hd1
    have hne1 : ¬ (b : Int) + 1 = (L.length : Int) := fun z => by
      rw [List.drop_eq_nil_of_le (by omega)] at hd1; cases hd1
    have e1 : ((b + 1 : Nat) : Int) = (b : Int) + 1 := by omega
    rw [e1] at hi1
    have d1 : d ≠ 32 := fun z => hd (.inl z)
    have d2 : d ≠ 41 := fun z => hd (.inr z)
    simp [tl9, bd9, b9, nth, forB, evalSs, evalS, evalT, evalE, evalEs, Out.bind, Out.fl, EV.d, EV.free, EV.fit, BT.fit, lift, liftB, cmpop, truth, assign, optFl, Fl.call, isD_nn, isD_bb, isN, scal_if, LIM, evalO, hL, hc, scal, hlt, hil, eqs, eqi, h, hlen, hne, hi, hi1, hne1, inS1, binop_add, d1, d2]
  · rcases hq with ⟨d, q, e, hd⟩ | e | ⟨d, q, e, d1, d2⟩
    · have hne : ¬ (b : Int) = (L.length : Int) := fun z => by
        have := hlb.mpr (by omega)
        rw [e] at this; cases this
      have hi := idx_str hL (hr.trans e)
      have hd1 : L.drop (b + 1) = d :: q := by
        rw [← List.drop_drop, hr, e]; rfl
      have hi1 := idx_str hL hd1
      have hne1 : ¬ (b : Int) + 1 = (L.length : Int) := fun z => by
        rw [List.drop_eq_nil_of_le (by omega)] at hd1; cases hd1
      have e1 : ((b + 1 : Nat) : Int) = (b : Int) + 1 := by omega
      rw [e1] at hi1
      simp [tl9, bd9, b9, nth, forB, evalSs, evalS, evalT, evalE, evalEs, Out.bind, Out.fl, EV.d, EV.free, EV.fit, BT.fit, lift, liftB, cmpop, truth, assign, optFl, Fl.call, isD_nn, isD_bb, isN, scal_if, LIM, evalO, hL, hc, scal, hlt, hil, eqs, eqi, h, hlen, hne, hi, hi1, hne1, inS1, binop_add, hd, rs9, lenl]
    · have hne : ¬ (b : Int) = (L.length : Int) := fun z => by
        have := hlb.mpr (by omega)
        rw [e] at this; cases this
      have hi := idx_str hL (hr.trans e)
      have hl1 : ((b : Int) + 1 = (L.length : Int)) = True := eq_true (by
        have h1 := congrArg List.length hr
        rw [e] at h1
        simp at h1
        omega)
      simp [tl9, bd9, b9, nth, forB, evalSs, evalS, evalT, evalE, evalEs, Out.bind, Out.fl, EV.d, EV.free, EV.fit, BT.fit, lift, liftB, cmpop, truth, assign, optFl, Fl.call, isD_nn, isD_bb, isN, scal_if, LIM, evalO, hL, hc, scal, hlt, hil, eqs, eqi, h, hlen, hne, hi, hl1, inS1, binop_add, rs9, lenl]
    · have hne : ¬ (b : Int) = (L.length : Int) := fun z => by
        have := hlb.mpr (by omega)
        rw [e] at this; cases this
      have hi := idx_str hL (hr.trans e)
      simp [tl9, bd9, b9, nth, forB, evalSs, evalS, evalT, evalE, evalEs, Out.bind, Out.fl, EV.d, EV.free, EV.fit, BT.fit, lift, liftB, cmpop, truth, assign, optFl, Fl.call, isD_nn, isD_bb, isN, scal_if, LIM, evalO, hL, hc, scal, hlt, hil, eqs, eqi, h, hlen, hne, hi, inS1, binop_add, rs9, lenl, d1, d2]
def tokO (c : Nat) (l : List Nat) : Tkn := if c = 40 ∨ c = 41 then [c] else c :: l.takeWhile od
def restO (c : Nat) (l : List Nat) : List Nat := if c = 40 ∨ c = 41 then l else l.dropWhile od
theorem tok_rest (c : Nat) (l : List Nat) : tokO c l ++ restO c l = c :: l := by
  unfold tokO restO
  split
  · rfl
  · simp [take_drop_od]
theorem scan_tr {c : Nat} {l : List Nat} {f : List Tkn} {m : Nat} (h : c ≠ 32) : scan (m + 1) (c :: l) f = if c = 40 then scan m l (f ++ [[40]]) else scanK m (restO c l) (f ++ [tokO c l]) := by
  simp only [scan, h, if_false]
  by_cases e1 : c = 40
  · simp [e1]
  · by_cases e2 : c = 41
    · subst e2; simp [restO, tokO]
    · simp [restO, tokO, e1, e2]
theorem pre9 {L l : List Nat} {f : List Tkn} {a c : Nat} {x3 x4 x5 : Option (Nat × D)} (hL : L.length ≤ 1000000) (h : L.drop a = c :: l) (hc : c ≠ 32) :
    ∃ y5, evalSs C W bd9 (t9 L f a x3 x4 x5 sto) = evalSs C W tl9 (t9 L f a x3 (some (0, .int ((a + (tokO c l).length : Nat) : Int))) y5 sto) ∧ a + (tokO c l).length ≤ L.length ∧
      cutD L (some (a : Int)) (some ((a + (tokO c l).length : Nat) : Int)) = tokO c l ∧ L.drop (a + (tokO c l).length) = restO c l := by
  have ha : a < L.length := by
    by_cases q : a < L.length
    · exact q
    · rw [List.drop_eq_nil_of_le (by omega)] at h; cases h
  have hlen := lens hL
  have hne : ¬ (a : Int) = (L.length : Int) := by omega
  have hi := idx_str hL h
  have htr := tok_rest c l
  have hsz : (tokO c l).length + (restO c l).length = L.length - a := by
    have := congrArg List.length h
    rw [← htr] at this
    simpa using this.symm
  have hb : bd9 = .cons (nth bd9 0) (.cons (nth bd9 1) (.cons (nth bd9 2) (.cons (nth bd9 3) tl9))) := rfl
  have d1 : L.drop a = tokO c l ++ restO c l := by rw [h, htr]
  have k1 : cutD L (some (a : Int)) (some ((a + (tokO c l).length : Nat) : Int)) = tokO c l := by
    rw [cut_mid (by omega) (by omega), d1]
    rw [show a + (tokO c l).length - a = (tokO c l).length by omega]
    simp
  have k2 : L.drop (a + (tokO c l).length) = restO c l := by
    rw [← List.drop_drop, d1]
    simp
  have g0 : evalS C W (nth bd9 0) (t9 L f a x3 x4 x5 sto) = .next (t9 L f a x3 x4 x5 sto) := by
    simp [bd9, b9, nth, forB, evalSs, evalS, evalT, evalE, evalEs, Out.bind, Out.fl, EV.d, EV.free, EV.fit, BT.fit, lift, liftB, cmpop, truth, assign, optFl, Fl.call, isD_nn, isD_bb, isN, scal_if, LIM, eqi, hlen, hne]
  have g1 : evalS C W (nth bd9 1) (t9 L f a x3 x4 x5 sto) = .next (t9 L f a x3 x4 x5 sto) := by
    simp [bd9, b9, nth, forB, evalSs, evalS, evalT, evalE, evalEs, Out.bind, Out.fl, EV.d, EV.free, EV.fit, BT.fit, lift, liftB, cmpop, truth, assign, optFl, Fl.call, isD_nn, isD_bb, isN, scal_if, LIM, eqs, hi, hc]
  have g2 : evalS C W (nth bd9 2) (t9 L f a x3 x4 x5 sto) = .next (t9 L f a x3 (some (0, .int ((a : Int) + 1))) x5 sto) := by
    simp [bd9, b9, nth, forB, evalSs, evalS, evalT, evalE, evalEs, Out.bind, Out.fl, EV.d, EV.free, EV.fit, BT.fit, lift, liftB, cmpop, truth, assign, optFl, Fl.call, isD_nn, isD_bb, isN, scal_if, LIM, binop_add]
  by_cases e : c = 40 ∨ c = 41
  · have et : tokO c l = [c] := by unfold tokO; rw [if_pos e]
    refine ⟨x5, ?_, by omega, k1, k2⟩
    have g3 : evalS C W (nth bd9 3) (t9 L f a x3 (some (0, .int ((a : Int) + 1))) x5 sto) = .next (t9 L f a x3 (some (0, .int ((a : Int) + 1))) x5 sto) := by
      simp [bd9, b9, nth, forB, evalSs, evalS, evalT, evalE, evalEs, Out.bind, Out.fl, EV.d, EV.free, EV.fit, BT.fit, lift, liftB, cmpop, truth, assign, optFl, Fl.call, isD_nn, isD_bb, isN, scal_if, LIM, inS1, hi, e]
    rw [hb, ev_next g0, ev_next g1, ev_next g2, ev_next g3, et]
    rfl
  · have e1 : c ≠ 40 := fun z => e (.inl z)
    have e2 : c ≠ 41 := fun z => e (.inr z)
    have et : tokO c l = c :: l.takeWhile od := by unfold tokO; rw [if_neg e]
    obtain ⟨y5, q⟩ := inner9 (W := W) (C := C) (sto := sto) (L := L) (f := f) (A := (a : Int)) (x3 := x3) l ((a : Int) + 1) x5
    refine ⟨y5, ?_, by omega, k1, k2⟩
    have hd : L.drop (a + 1) = l := by
      rw [← List.drop_drop, h]
      rfl
    have hcut : cutD L (some ((a : Int) + 1)) none = l := by
      have := cut_drop (L := L) (a := a + 1) (by omega)
      rw [hd] at this
      simpa using this
    have hit : evalI C (.val (.sl (.bor 0) (.som (.bin .add (.bor 2) (.int 1))) .non)) (t9 L f a x3 (some (0, .int ((a : Int) + 1))) x5 sto) = .ok (l.map fun c => .str [c]) (t9 L f a x3 (some (0, .int ((a : Int) + 1))) x5 sto) := by
      simp [evalI, evalSs, evalS, evalT, evalE, evalEs, Out.bind, Out.fl, EV.d, EV.free, EV.fit, BT.fit, lift, liftB, cmpop, truth, assign, optFl, Fl.call, isD_nn, isD_bb, isN, scal_if, LIM, evalO, binop_add, hL, hcut]
    have hf : evalS C W (.for (.name 5) (.val (.sl (.bor 0) (.som (.bin .add (.bor 2) (.int 1))) .non)) bd9i) (t9 L f a x3 (some (0, .int ((a : Int) + 1))) x5 sto) = _ := ev_for hit q
    have g3 : evalS C W (nth bd9 3) (t9 L f a x3 (some (0, .int ((a : Int) + 1))) x5 sto) = .next (t9 L f a x3 (some (0, .int ((a : Int) + 1 + ((l.takeWhile od).length : Int)))) y5 sto) := by
      have e3 : nth bd9 3 = .ifs (.cmp .notin (.idx (.bor 0) (.bor 2)) (.str [40, 41])) (.cons (.for (.name 5) (.val (.sl (.bor 0) (.som (.bin .add (.bor 2) (.int 1))) .non)) bd9i) .nil) .nil := rfl
      have ht : evalT C (.cmp .notin (.idx (.bor 0) (.bor 2)) (.str [40, 41])) (t9 L f a x3 (some (0, .int ((a : Int) + 1))) x5 sto) = .ok true (t9 L f a x3 (some (0, .int ((a : Int) + 1))) x5 sto) := by
        simp [evalSs, evalS, evalT, evalE, evalEs, Out.bind, Out.fl, EV.d, EV.free, EV.fit, BT.fit, lift, liftB, cmpop, truth, assign, optFl, Fl.call, isD_nn, isD_bb, isN, scal_if, LIM, inS1, hi, e1, e2]
      rw [e3, evalS, ht]
      simp only [Out.fl, if_true]
      rw [ev_next hf]
      simp [evalSs]
    rw [hb, ev_next g0, ev_next g1, ev_next g2, ev_next g3, et]
    have ez : ((a : Int) + 1 + ((l.takeWhile od).length : Int)) = ((a + (c :: l.takeWhile od).length : Nat) : Int) := by simp; omega
    rw [ez]
theorem loop9 {L : List Nat} (hL : L.length ≤ 300000) : ∀ (items : List D) (r : List Nat) (a : Nat) (f : List Tkn) (x3 x4 x5 : Option (Nat × D)), L.drop a = r → a ≤ L.length → r.length < items.length → f.length + r.length < 800000 →
    forL (fun d s2 => match assign (.name 3) 0 d s2 with
        | some s3 => evalSs C W bd9 s3
        | none => .err) items (t9 L f a x3 x4 x5 sto) = rs9 sto (scan items.length r f)
  | [], r, a, f, x3, x4, x5, h, ha, hl, hf => by simp at hl
  | d :: ds, r, a, f, x3, x4, x5, h, ha, hl, hf => by
    simp only [List.length_cons] at hl
    have hL' : L.length ≤ 1000000 := by omega
    have ha1 : assign (.name 3) 0 d (t9 L f a x3 x4 x5 sto) = some (t9 L f a (some (0, d)) x4 x5 sto) := by simp [assign]
    have hlen := lens hL'
    cases r with
    | nil =>
      have e : ((a : Int) = (L.length : Int)) = True := eq_true (by
        have := congrArg List.length h
        simp at this
        omega)
      rw [scan_nil, forL_ret (k := 2) (v := .tup [tl f, .int 0]) (t := sto)]
      · rfl
      · simp only [ha1]
        simp [bd9, b9, nth, forB, evalSs, evalS, evalT, evalE, evalEs, Out.bind, Out.fl, EV.d, EV.free, EV.fit, BT.fit, lift, liftB, cmpop, truth, assign, optFl, Fl.call, isD_nn, isD_bb, isN, scal_if, LIM, eqi, hlen, e, scal]
    | cons c l =>
      simp only [List.length_cons] at hl hf
      have hlt : a < L.length := by
        by_cases q : a < L.length
        · exact q
        · rw [List.drop_eq_nil_of_le (by omega)] at h; cases h
      by_cases hc : c = 32
      · subst hc
        have hne : ¬ (a : Int) = (L.length : Int) := by omega
        have hi := idx_str hL' h
        have : scan (ds.length + 1) (32 :: l) f = (f, f.length + 1) := by simp [scan]
        rw [List.length_cons, this, forL_ret (k := 1) (v := .tup [tl f, .int (f.length + 1 : Nat)]) (t := sto)]
        · rfl
        · simp only [ha1]
          simp [bd9, b9, nth, forB, evalSs, evalS, evalT, evalE, evalEs, Out.bind, Out.fl, EV.d, EV.free, EV.fit, BT.fit, lift, liftB, cmpop, truth, assign, optFl, Fl.call, isD_nn, isD_bb, isN, scal_if, LIM, eqi, eqs, hlen, hne, hi, lenl, binop_add, scal]
      · obtain ⟨y5, g, h1, h2, h3⟩ := pre9 (W := W) (C := C) (sto := sto) (f := f) (x3 := some (0, d)) (x4 := x4) (x5 := x5) hL' h hc
        obtain ⟨p1, p2, p3, p4⟩ := tail9 (W := W) (C := C) (sto := sto) (f := f) (x3 := some (0, d)) (x5 := y5) hL' (by omega) h1 h2 h3
        have htr := congrArg List.length (tok_rest c l)
        have hpos : 0 < (tokO c l).length := by unfold tokO; split <;> simp
        simp only [List.length_append, List.length_cons] at htr
        rw [List.length_cons, scan_tr hc]
        have again : ∀ (b : Nat) (r2 : List Nat), L.drop b = r2 → b ≤ L.length → r2.length < ds.length → r2.length ≤ l.length → ∀ x4' x5', forL (fun d s2 => match assign (.name 3) 0 d s2 with
            | some s3 => evalSs C W bd9 s3
            | none => .err) ds (t9 L (f ++ [tokO c l]) b (some (0, d)) x4' x5' sto) = rs9 sto (scan ds.length r2 (f ++ [tokO c l])) := fun b r2 q1 q2 q3 q4 x4' x5' =>
          loop9 hL ds r2 b (f ++ [tokO c l]) (some (0, d)) x4' x5' q1 q2 q3 (by simp; omega)
        by_cases e40 : c = 40
        · subst e40
          have et : tokO 40 l = [40] := rfl
          have er : restO 40 l = l := rfl
          rw [if_pos rfl, forL_cont (by simp only [ha1]; rw [g]; exact p1 et), again _ _ h3 h1 (by rw [er]; omega) (by rw [er]; exact Nat.le_refl _), et, er]
        · rw [if_neg e40]
          have nt : tokO c l ≠ [40] := fun z => by
            unfold tokO at z
            split at z
            · cases z; exact e40 rfl
            · exact e40 (List.cons.inj z).1
          cases er : restO c l with
          | nil =>
            rw [forL_cont (by simp only [ha1]; rw [g]; exact p2 nt (.inl er)), again _ _ h3 h1 (by rw [er]; simp; omega) (by rw [er]; simp), er, scan_nil]
            simp [scanK, kont]
          | cons x q =>
            have hq : (x :: q).length ≤ l.length := by rw [← er]; omega
            by_cases x41 : x = 41
            · rw [forL_cont (by simp only [ha1]; rw [g]; exact p2 nt (.inr (by rw [er, x41]; rfl))), again _ _ h3 h1 (by rw [er]; omega) (by rw [er]; exact hq), er]
              simp [scanK, kont, x41]
            · by_cases x32 : x = 32
              · subst x32
                cases q with
                | nil =>
                  rw [forL_ret (by simp only [ha1]; rw [g]; exact p4 nt (.inr (.inl er)))]
                  simp [scanK, kont, rs9]
                | cons d2 q2 =>
                  by_cases ed : d2 = 32 ∨ d2 = 41
                  · rw [forL_ret (by simp only [ha1]; rw [g]; exact p4 nt (.inl ⟨d2, q2, er, ed⟩))]
                    simp [scanK, kont, rs9, ed]
                  · have hd : L.drop (a + (tokO c l).length + 1) = d2 :: q2 := by rw [← List.drop_drop, h3, er]; rfl
                    have hb : a + (tokO c l).length + 1 ≤ L.length := by
                      have := congrArg List.length hd
                      simp at this
                      omega
                    simp only [List.length_cons] at hq
                    have ag := again (a + (tokO c l).length + 1) (d2 :: q2) hd hb (by simp; omega) (by simp; omega)
                    have ecast : ((a + (tokO c l).length + 1 : Nat) : Int) = ((a + (tokO c l).length : Nat) : Int) + 1 := by omega
                    rw [ecast] at ag
                    rw [forL_next (by simp only [ha1]; rw [g]; exact p3 nt d2 q2 er ed), ag]
                    simp [scanK, kont, ed]
              · rw [forL_ret (by simp only [ha1]; rw [g]; exact p4 nt (.inr (.inr ⟨x, q, er, x32, x41⟩)))]
                simp [scanK, kont, rs9, x41, x32]
theorem scan_ok {L : List Nat} (hL : L.length ≤ 300000) : callF Tbl W (n + 1) 9 [.str L] sto = .ok (if (scan (L.length + 1) L []).2 = 0 then 2 else 1) (.tup [tl (scan (L.length + 1) L []).1, .int ((scan (L.length + 1) L []).2 : Nat)]) sto := by
  rw [callF_eq (fd := ⟨1, 6, b9⟩) rfl rfl (by decide)]
  have hb : b9 = .cons (nth b9 0) (.cons (nth b9 1) (.cons (nth b9 2) (.cons (nth b9 3) .nil))) := rfl
  have hf : nth b9 2 = .for (.name 3) (.range1 (.bin .add (.bi .len (.cons (.bor 0) .nil)) (.int 1))) bd9 := rfl
  have hlen := lens (t := L) (by omega)
  have hi : evalI (callF Tbl W n) (.range1 (.bin .add (.bi .len (.cons (.bor 0) .nil)) (.int 1))) (t9 L [] 0 none none none sto) = .ok ((List.range ((L.length + 1 : Nat) : Int).toNat).map fun (i : Nat) => .int (i : Int)) (t9 L [] 0 none none none sto) := by
    refine evalI_range1 (x := .own 0 (.int ((L.length + 1 : Nat) : Int))) ?_ rfl (by omega) (by omega)
    simp [evalSs, evalS, evalT, evalE, evalEs, Out.bind, Out.fl, EV.d, EV.free, EV.fit, BT.fit, lift, liftB, cmpop, truth, assign, optFl, Fl.call, isD_nn, isD_bb, isN, scal_if, LIM, hlen, binop_add]
  have q := loop9 (W := W) (C := callF Tbl W n) (sto := sto) hL ((List.range ((L.length + 1 : Nat) : Int).toNat).map fun (i : Nat) => .int (i : Int)) L 0 [] none none none (by simp) (by omega) (by simp) (by simp; omega)
  have hz : ((List.range ((L.length + 1 : Nat) : Int).toNat).map fun (i : Nat) => (D.int (i : Int))).length = L.length + 1 := by simp
  rw [hz] at q
  show (evalSs (callF Tbl W n) W b9 ⟨[some (0, .str L), none, none, none, none, none], sto⟩).call = _
  rw [hb, ev_next (s' := ⟨[some (0, .str L), some (1, tl []), none, none, none, none], sto⟩) (by simp [b9, nth, evalSs, evalS, evalT, evalE, evalEs, Out.bind, Out.fl, EV.d, EV.free, EV.fit, BT.fit, lift, liftB, cmpop, truth, assign, optFl, Fl.call, isD_nn, isD_bb, isN, scal_if, LIM]), ev_next (s' := t9 L [] 0 none none none sto) (by simp [b9, nth, evalSs, evalS, evalT, evalE, evalEs, Out.bind, Out.fl, EV.d, EV.free, EV.fit, BT.fit, lift, liftB, cmpop, truth, assign, optFl, Fl.call, isD_nn, isD_bb, isN, scal_if, LIM])]
  rw [hf, ev_ret (ev_for hi q)]
  rfl
end K89
end

section
set_option pp.maxSteps 1500
namespace K89
open BT
variable {W n : Nat} {sto : Sto} {C : Nat → List D → Sto → CR}
/-! ### numbers -/
theorem inDg (c : Nat) : inS (.str [c]) (.str [48, 49, 50, 51, 52, 53, 54, 55, 56, 57]) = some (isDg c) := by
  rw [inS1]
  congr 1
  by_cases h : isDg c = true
  · rw [h]
    simp [isDg] at h
    simp; omega
  · have h' : isDg c = false := by simpa using h
    rw [h']
    simp [isDg] at h'
    simp; omega
def lt (c : Nat) : Bool := decide (97 ≤ c) && decide (c ≤ 122)
theorem inLt (c : Nat) : inS (.str [c]) (.str [97, 98, 99, 100, 101, 102, 103, 104, 105, 106, 107, 108, 109, 110, 111, 112, 113, 114, 115, 116, 117, 118, 119, 120, 121, 122]) = some (lt c) := by
  rw [inS1]
  congr 1
  by_cases h : lt c = true
  · rw [h]
    simp [lt] at h
    simp; omega
  · have h' : lt c = false := by simpa using h
    rw [h']
    simp [lt] at h'
    simp; omega
abbrev t1 (t : Tkn) (sg : Option (Nat × D)) (sto : Sto) : S := ⟨[some (0, .str t), sg], sto⟩
def bd1 : CSs := forB (nth b1 1)
def bd13 : CSs := forB (nth b13 1)
theorem bd13_eq : bd13 = bd1 := rfl
theorem loop1 {T : Tkn} : ∀ (t : Tkn) (sg : Option (Nat × D)), (t.all isDg = true → ∃ sg', forL (fun d s2 => match assign (.name 1) 0 d s2 with
        | some s3 => evalSs C W bd1 s3
        | none => .err) (t.map fun c => .str [c]) (t1 T sg sto) = .next (t1 T sg' sto)) ∧ (t.all isDg = false → forL (fun d s2 => match assign (.name 1) 0 d s2 with
        | some s3 => evalSs C W bd1 s3
        | none => .err) (t.map fun c => .str [c]) (t1 T sg sto) = .ret 0 (.int (-1)) sto)
  | [], sg => ⟨fun _ => ⟨sg, rfl⟩, fun h => by simp at h⟩
  | c :: t, sg => by
    have ha : assign (.name 1) 0 (.str [c]) (t1 T sg sto) = some (t1 T (some (0, .str [c])) sto) := by simp [assign]
    obtain ⟨i1, i2⟩ := loop1 (T := T) t (some (0, .str [c]))
    by_cases h : isDg c = true
    · have hs : (match assign (.name 1) 0 (.str [c]) (t1 T sg sto) with
        | some s3 => evalSs C W bd1 s3
        | none => .err) = .next (t1 T (some (0, .str [c])) sto) := by
        simp only [ha]
        simp [bd1, b1, nth, forB, evalSs, evalS, evalT, evalE, evalEs, Out.bind, Out.fl, EV.d, EV.free, EV.fit, BT.fit, lift, liftB, cmpop, truth, assign, optFl, Fl.call, isD_nn, isD_bb, isN, scal_if, LIM, inDg, h]
      refine ⟨fun q => ?_, fun q => ?_⟩
      · rw [List.map_cons, forL_next hs]
        exact i1 (by simpa [h] using q)
      · rw [List.map_cons, forL_next hs]
        exact i2 (by rw [List.all_cons, h, Bool.true_and] at q; exact q)
    · have h' : isDg c = false := by simpa using h
      refine ⟨fun q => by simp [h'] at q, fun _ => ?_⟩
      rw [List.map_cons, forL_ret]
      simp only [ha]
      simp [bd1, b1, nth, forB, evalSs, evalS, evalT, evalE, evalEs, Out.bind, Out.fl, EV.d, EV.free, EV.fit, BT.fit, lift, liftB, cmpop, truth, assign, optFl, Fl.call, isD_nn, isD_bb, isN, scal_if, LIM, inDg, h']
theorem int_str {t : Tkn} (h1 : t.all isDg = true) (h2 : t ≠ []) (h3 : t.length ≤ 640) : biD .int [.str t] = some (.int (digV t : Nat)) := by
  have : t.isEmpty = false := by
    cases t with
    | nil => exact absurd rfl h2
    | cons _ _ => rfl
  simp only [biD, h1, this, h3]
  rfl
theorem num_end {t : Tkn} (hC : ∀ sg, evalSs C W (.cons (nth b1 2) .nil) (t1 t sg sto) = evalSs C W (.cons (nth b1 2) .nil) (t1 t sg sto)) (h : (1 ≤ t.length ∧ t.length ≤ 3) ∧ ¬ (t.head? = some 48 ∧ 1 < t.length)) (sg : Option (Nat × D)) :
    evalSs C W (.cons (nth b1 1) (.cons (nth b1 2) .nil)) (t1 t sg sto) = .ret 0 (.int (numIn t)) sto := by
  have hi : evalI C (.val (.var 0)) (t1 t sg sto) = .ok (t.map fun c => .str [c]) (t1 t sg sto) := by simp [evalI, evalSs, evalS, evalT, evalE, evalEs, Out.bind, Out.fl, EV.d, EV.free, EV.fit, BT.fit, lift, liftB, cmpop, truth, assign, optFl, Fl.call, isD_nn, isD_bb, isN, scal_if, LIM]
  have hf : nth b1 1 = .for (.name 1) (.val (.var 0)) bd1 := rfl
  obtain ⟨i1, i2⟩ := loop1 (W := W) (C := C) (sto := sto) (T := t) t sg
  by_cases ha : t.all isDg = true
  · obtain ⟨sg', e⟩ := i1 ha
    have hn : numIn t = (digV t : Nat) := by unfold numIn; rw [if_pos ⟨h.1, h.2, ha⟩]
    rw [ev_next (by rw [hf]; exact ev_for hi e), hn]
    have hz := int_str ha (fun z => by rw [z] at h; simp at h) (by omega)
    simp [b1, nth, evalSs, evalS, evalT, evalE, evalEs, Out.bind, Out.fl, EV.d, EV.free, EV.fit, BT.fit, lift, liftB, cmpop, truth, assign, optFl, Fl.call, isD_nn, isD_bb, isN, scal_if, LIM, hz]
  · have ha' : t.all isDg = false := by simpa using ha
    have hn : numIn t = -1 := by unfold numIn; rw [if_neg (fun q => ha q.2.2)]
    rw [ev_ret (by rw [hf]; exact ev_for hi (i2 ha')), hn]
theorem idx0 {x : Nat} {r : Tkn} (h : (x :: r).length ≤ 1000000) : idxD (.str (x :: r)) (.int 0) = some (.str [x]) := by
  have : r.length + 1 ≤ 1000000 := by simpa using h
  simp [idxD, LIM, this, ixN]
theorem head0 {t : Tkn} (h : 1 ≤ t.length) (ht : t.length ≤ 1000000) : ∃ x, t.head? = some x ∧ idxD (.str t) (.int 0) = some (.str [x]) ∧ ¬ t = [] := by
  match t, h, ht with
  | x :: r, h, ht => exact ⟨x, rfl, idx0 ht, by simp⟩
theorem num_ok {t : Tkn} (ht : t.length ≤ 1000000) : callF Tbl W (n + 1) 1 [.str t] sto = .ok 0 (.int (numIn t)) sto := by
  rw [callF_eq (fd := ⟨1, 2, b1⟩) rfl rfl (by decide)]
  have hb : b1 = .cons (nth b1 0) (.cons (nth b1 1) (.cons (nth b1 2) .nil)) := rfl
  have hlen := lens ht
  show (evalSs (callF Tbl W n) W b1 (t1 t none sto)).call = _
  by_cases h : (1 ≤ t.length ∧ t.length ≤ 3) ∧ ¬ (t.head? = some 48 ∧ 1 < t.length)
  · have g0 : evalS (callF Tbl W n) W (nth b1 0) (t1 t none sto) = .next (t1 t none sto) := by
      obtain ⟨x, e1, hi, _⟩ := head0 h.1.1 ht
      have h1 : (1 : Int) ≤ (t.length : Int) := by have := h.1.1; omega
      have h2 : (t.length : Int) ≤ 3 := by have := h.1.2; omega
      by_cases hx : x = 48
      · have h3 : ¬ (1 : Int) < (t.length : Int) := fun z => h.2 ⟨by rw [e1, hx], by omega⟩
        simp [b1, nth, evalSs, evalS, evalT, evalE, evalEs, Out.bind, Out.fl, EV.d, EV.free, EV.fit, BT.fit, lift, liftB, cmpop, truth, assign, optFl, Fl.call, isD_nn, isD_bb, isN, scal_if, LIM, hlen, h1, h2, hi, eqs, hx, h3]
      · simp [b1, nth, evalSs, evalS, evalT, evalE, evalEs, Out.bind, Out.fl, EV.d, EV.free, EV.fit, BT.fit, lift, liftB, cmpop, truth, assign, optFl, Fl.call, isD_nn, isD_bb, isN, scal_if, LIM, hlen, h1, h2, hi, eqs, hx]
    rw [hb, ev_next g0]
    rw [show (evalSs (callF Tbl W n) W (.cons (nth b1 1) (.cons (nth b1 2) .nil)) (t1 t none sto)) = _ from num_end (fun _ => rfl) h none]
    rfl
  · have hn : numIn t = -1 := by unfold numIn; rw [if_neg (fun q => h ⟨q.1, q.2.1⟩)]
    have g0 : evalS (callF Tbl W n) W (nth b1 0) (t1 t none sto) = .ret 0 (.int (-1)) sto := by
      by_cases h1 : 1 ≤ t.length
      · obtain ⟨x, e1, hi, _⟩ := head0 h1 ht
        have h1' : (1 : Int) ≤ (t.length : Int) := by omega
        by_cases h2 : t.length ≤ 3
        · have hx : t.head? = some 48 ∧ 1 < t.length := by
            by_cases q : t.head? = some 48 ∧ 1 < t.length
            · exact q
            · exact absurd ⟨⟨h1, h2⟩, q⟩ h
          have ex : x = 48 := by rw [e1] at hx; exact Option.some.inj hx.1
          have h2 : (t.length : Int) ≤ 3 := by omega
          have h3 : (1 : Int) < (t.length : Int) := by omega
          simp [b1, nth, evalSs, evalS, evalT, evalE, evalEs, Out.bind, Out.fl, EV.d, EV.free, EV.fit, BT.fit, lift, liftB, cmpop, truth, assign, optFl, Fl.call, isD_nn, isD_bb, isN, scal_if, LIM, hlen, h1', h2, hi, eqs, ex, h3]
        · have h2 : ¬ (t.length : Int) ≤ 3 := by omega
          simp [b1, nth, evalSs, evalS, evalT, evalE, evalEs, Out.bind, Out.fl, EV.d, EV.free, EV.fit, BT.fit, lift, liftB, cmpop, truth, assign, optFl, Fl.call, isD_nn, isD_bb, isN, scal_if, LIM, hlen, h1', h2]
      · have h1 : ¬ (1 : Int) ≤ (t.length : Int) := by omega
        simp [b1, nth, evalSs, evalS, evalT, evalE, evalEs, Out.bind, Out.fl, EV.d, EV.free, EV.fit, BT.fit, lift, liftB, cmpop, truth, assign, optFl, Fl.call, isD_nn, isD_bb, isN, scal_if, LIM, hlen, h1]
    rw [hb, ev_ret g0, hn]
    rfl
theorem num13_ok {t : Tkn} (ht : t.length ≤ 1000000) : callF Tbl W (n + 1) 13 [.str t] sto = .ok 0 (.int (numIn t)) sto := by
  rw [callF_eq (fd := ⟨1, 2, b13⟩) rfl rfl (by decide)]
  have hb : b13 = .cons (nth b13 0) (.cons (nth b1 1) (.cons (nth b1 2) .nil)) := rfl
  have hlen := lens ht
  show (evalSs (callF Tbl W n) W b13 (t1 t none sto)).call = _
  by_cases h : (1 ≤ t.length ∧ t.length ≤ 3) ∧ ¬ (t.head? = some 48 ∧ 1 < t.length)
  · have g0 : evalS (callF Tbl W n) W (nth b13 0) (t1 t none sto) = .next (t1 t none sto) := by
      obtain ⟨x, e1, hi, hne⟩ := head0 h.1.1 ht
      have h2 : ¬ (3 : Int) < (t.length : Int) := by have := h.1.2; omega
      by_cases hx : x = 48
      · have h3 : ¬ (1 : Int) < (t.length : Int) := fun z => h.2 ⟨by rw [e1, hx], by omega⟩
        simp [b13, nth, evalSs, evalS, evalT, evalE, evalEs, Out.bind, Out.fl, EV.d, EV.free, EV.fit, BT.fit, lift, liftB, cmpop, truth, assign, optFl, Fl.call, isD_nn, isD_bb, isN, scal_if, LIM, hlen, h2, hi, eqs, hx, h3, hne]
      · simp [b13, nth, evalSs, evalS, evalT, evalE, evalEs, Out.bind, Out.fl, EV.d, EV.free, EV.fit, BT.fit, lift, liftB, cmpop, truth, assign, optFl, Fl.call, isD_nn, isD_bb, isN, scal_if, LIM, hlen, h2, hi, eqs, hx, hne]
    rw [hb, ev_next g0]
    rw [show (evalSs (callF Tbl W n) W (.cons (nth b1 1) (.cons (nth b1 2) .nil)) (t1 t none sto)) = _ from num_end (fun _ => rfl) h none]
    rfl
  · have hn : numIn t = -1 := by unfold numIn; rw [if_neg (fun q => h ⟨q.1, q.2.1⟩)]
    have g0 : evalS (callF Tbl W n) W (nth b13 0) (t1 t none sto) = .ret 0 (.int (-1)) sto := by
      by_cases h1 : 1 ≤ t.length
      · obtain ⟨x, e1, hi, hne⟩ := head0 h1 ht
        by_cases h2 : t.length ≤ 3
        · have hx : t.head? = some 48 ∧ 1 < t.length := by
            by_cases q : t.head? = some 48 ∧ 1 < t.length
            · exact q
            · exact absurd ⟨⟨h1, h2⟩, q⟩ h
          have ex : x = 48 := by rw [e1] at hx; exact Option.some.inj hx.1
          have h2 : ¬ (3 : Int) < (t.length : Int) := by omega
          have h3 : (1 : Int) < (t.length : Int) := by omega
          simp [b13, nth, evalSs, evalS, evalT, evalE, evalEs, Out.bind, Out.fl, EV.d, EV.free, EV.fit, BT.fit, lift, liftB, cmpop, truth, assign, optFl, Fl.call, isD_nn, isD_bb, isN, scal_if, LIM, hlen, h2, hi, eqs, ex, h3, hne]
        · have h2 : (3 : Int) < (t.length : Int) := by omega
          simp [b13, nth, evalSs, evalS, evalT, evalE, evalEs, Out.bind, Out.fl, EV.d, EV.free, EV.fit, BT.fit, lift, liftB, cmpop, truth, assign, optFl, Fl.call, isD_nn, isD_bb, isN, scal_if, LIM, hlen, h2, eqs, hne]
      · have e : t = [] := List.length_eq_zero_iff.mp (by omega)
        subst e
        simp [b13, nth, evalSs, evalS, evalT, evalE, evalEs, Out.bind, Out.fl, EV.d, EV.free, EV.fit, BT.fit, lift, liftB, cmpop, truth, assign, optFl, Fl.call, isD_nn, isD_bb, isN, scal_if, LIM, hlen, eqs]
    rw [hb, ev_ret g0, hn]
    rfl
end K89
end

section
set_option pp.maxSteps 1500
namespace K89
open BT
variable {W n : Nat} {sto : Sto} {C : Nat → List D → Sto → CR}
theorem ixm1 (m : Nat) : ixN (m + 1) (-1) = some m := by
  unfold ixN
  rw [if_neg (by omega), if_pos (by omega)]
  congr 1
  omega
theorem idx_lastD (xs : List D) (a : D) : idxD (.lst (xs ++ [a])) (.int (-1)) = some a := by
  simp only [idxD, List.length_append, List.length_cons, List.length_nil]
  rw [ixm1]
  simp
theorem idx_tl {ts : List Tkn} {i : Nat} {t : Tkn} (h : ts[i]? = some t) : idxD (tl ts) (.int (i : Int)) = some (.str t) := by
  have hi : i < ts.length := (List.getElem?_eq_some_iff.mp h).1
  simp only [tl, idxD, List.length_map]
  rw [ixN_nat hi]
  simp [h]
/-! ### _law_fault -/
abbrev cD (st : List (List Vl)) : D := .lst (st.reverse.map fun p => .int (p.length : Int))
theorem cD_nil (st : List (List Vl)) : eqD (cD st) (.lst []) = some (decide (st = [])) := by
  have hp : ∀ xs : List (List Vl), plainL (xs.map fun p => D.int (p.length : Int)) = true ∧ depL (xs.map fun p => D.int (p.length : Int)) = 0 := by
    intro xs
    induction xs with
    | nil => exact ⟨rfl, rfl⟩
    | cons p xs ih => exact ⟨by simp [plainL, plain, ih.1], by simp [depL, dep, ih.2]⟩
  have h1 := (hp st.reverse).1
  have h2 := (hp st.reverse).2
  simp only [eqD, okD, plain, dep, h1, h2, plainL, depL]
  cases st with
  | nil => simp [eqB, eqL]
  | cons p st =>
    simp only [eqB, List.reverse_cons, List.map_append, List.map_cons, List.map_nil]
    cases hq : (st.reverse.map fun p => D.int (p.length : Int)) <;> simp [eqL]
theorem cD_last (p : List Vl) (st : List (List Vl)) : idxD (cD (p :: st)) (.int (-1)) = some (.int p.length) := by
  have := idx_lastD (st.reverse.map fun p => D.int (p.length : Int)) (.int p.length)
  simpa [cD] using this
theorem cD_cons (p : List Vl) (st : List (List Vl)) : cD (p :: st) = .lst ((st.reverse.map fun p => D.int (p.length : Int)) ++ [.int p.length]) := by simp [cD]
abbrev r18 (ts : List Tkn) (cs : List D) (dn : Bool) (x3 x4 x5 x6 : Option (Nat × D)) (sto : Sto) : S := ⟨[some (0, tl ts), some (1, .lst cs), some (0, .bl dn), x3, x4, x5, x6], sto⟩
abbrev cs (st : List (List Vl)) : List D := st.reverse.map fun p => .int (p.length : Int)
abbrev t18 (ts : List Tkn) (st : List (List Vl)) (dn : Bool) (x3 x4 x5 x6 : Option (Nat × D)) (sto : Sto) : S := r18 ts (cs st) dn x3 x4 x5 x6 sto
def bd18 : CSs := forB (nth b18 2)
def NumC (C : Nat → List D → Sto → CR) (f : Nat) (sto : Sto) : Prop := ∀ t : Tkn, t.length ≤ 1000000 → C f [.str t] sto = .ok 0 (.int (numIn t)) sto
theorem num41 : numIn [41] = -1 := by decide
theorem num40 : numIn [40] = -1 := by decide
theorem cs_cons (p : List Vl) (st : List (List Vl)) : cs (p :: st) = cs st ++ [.int (p.length : Int)] := by simp [cs]
theorem cs_len (st : List (List Vl)) : (cs st).length = st.length := by simp [cs]
theorem lst_set {xs : List D} {a b : D} : (xs ++ [a]).set xs.length b = xs ++ [b] := by simp
/-- a turn that ends in a return -/
theorem turn18 {ts : List Tkn} {st : List (List Vl)} {res : Option Vl} {i : Nat} {t : Tkn} {x4 x5 x6 : Option (Nat × D)} (hC : NumC C 13 sto) (hi : ts[i]? = some t) (ht : t.length ≤ 1000000) (iv : Iv st res) :
    (stepT st res t = none → evalSs C W bd18 (t18 ts st res.isSome (some (0, .int (i : Int))) x4 x5 x6 sto) = .ret 0 (.int ((i : Int) + 1)) sto) ∧
    (∀ st' res', stepT st res t = some (st', res') → ∃ y4 y5 y6, evalSs C W bd18 (t18 ts st res.isSome (some (0, .int (i : Int))) x4 x5 x6 sto) = .next (t18 ts st' res'.isSome (some (0, .int (i : Int))) y4 y5 y6 sto)) := by
  have hix := idx_tl hi
  have hn := hC t ht
  have hnil : eqD (.lst []) (.lst []) = some true := by decide
  cases res with
  | some v =>
    obtain ⟨rfl, _⟩ := iv.r v rfl
    refine ⟨fun _ => ?_, fun st' res' h => by simp [stepT] at h⟩
    have e0 : cs [] = [] := rfl
    by_cases h40 : t = [40]
    · subst h40
      simp [bd18, b18, nth, forB, evalSs, evalS, evalT, evalE, evalEs, Out.bind, Out.fl, EV.d, EV.free, EV.fit, BT.fit, lift, liftB, cmpop, truth, assign, optFl, Fl.call, isD_nn, isD_bb, isN, scal_if, LIM, hix, eqs, binop_add, hn, num40]
    · by_cases h41 : t = [41]
      · subst h41
        simp [bd18, b18, nth, forB, evalSs, evalS, evalT, evalE, evalEs, Out.bind, Out.fl, EV.d, EV.free, EV.fit, BT.fit, lift, liftB, cmpop, truth, assign, optFl, Fl.call, isD_nn, isD_bb, isN, scal_if, LIM, hix, eqs, binop_add, hn, num41]
      · by_cases h0 : 0 ≤ numIn t
        · simp [bd18, b18, nth, forB, evalSs, evalS, evalT, evalE, evalEs, Out.bind, Out.fl, EV.d, EV.free, EV.fit, BT.fit, lift, liftB, cmpop, truth, assign, optFl, Fl.call, isD_nn, isD_bb, isN, scal_if, LIM, hix, eqs, binop_add, hn, h0, h40, h41]
        · simp [bd18, b18, nth, forB, evalSs, evalS, evalT, evalE, evalEs, Out.bind, Out.fl, EV.d, EV.free, EV.fit, BT.fit, lift, liftB, cmpop, truth, assign, optFl, Fl.call, isD_nn, isD_bb, isN, scal_if, LIM, hix, eqs, binop_add, hn, h0, h40, h41]
  | none =>
    cases st with
    | nil =>
      have e0 : cs [] = [] := rfl
      by_cases h40 : t = [40]
      · subst h40
        refine ⟨fun h => by simp [stepT, more] at h, fun st' res' h => ?_⟩
        have : st' = [[]] ∧ res' = none := by simp [stepT, more] at h; exact ⟨h.1.symm, h.2.symm⟩
        obtain ⟨rfl, rfl⟩ := this
        refine ⟨some (0, .str [40]), some (0, .bl true), some (0, .bl false), ?_⟩
        simp [bd18, b18, nth, forB, evalSs, evalS, evalT, evalE, evalEs, Out.bind, Out.fl, EV.d, EV.free, EV.fit, BT.fit, lift, liftB, cmpop, truth, assign, optFl, Fl.call, isD_nn, isD_bb, isN, scal_if, LIM, hix, eqs, binop_add, hnil, lenl, scal, cs]
      · by_cases h0 : 0 ≤ numIn t
        · have h41 : t ≠ [41] := fun z => by rw [z, num41] at h0; omega
          refine ⟨fun h => by simp [stepT, more, h40, h0, put] at h, fun st' res' h => ?_⟩
          have : st' = [] ∧ res'.isSome = true := by
            simp [stepT, more, h40, h0, put] at h
            exact ⟨h.1, by rw [← h.2]; rfl⟩
          obtain ⟨rfl, e⟩ := this
          refine ⟨some (0, .str t), some (0, .bl true), some (0, .bl true), ?_⟩
          simp [bd18, b18, nth, forB, evalSs, evalS, evalT, evalE, evalEs, Out.bind, Out.fl, EV.d, EV.free, EV.fit, BT.fit, lift, liftB, cmpop, truth, assign, optFl, Fl.call, isD_nn, isD_bb, isN, scal_if, LIM, hix, eqs, binop_add, hnil, lenl, scal, cs, h40, h41, hn, h0, e]
        · refine ⟨fun _ => ?_, fun st' res' h => by simp [stepT, more, h40, h0] at h⟩
          by_cases h41 : t = [41]
          · subst h41
            simp [bd18, b18, nth, forB, evalSs, evalS, evalT, evalE, evalEs, Out.bind, Out.fl, EV.d, EV.free, EV.fit, BT.fit, lift, liftB, cmpop, truth, assign, optFl, Fl.call, isD_nn, isD_bb, isN, scal_if, LIM, hix, eqs, binop_add, hnil, lenl, scal, cs, hn, num41]
          · simp [bd18, b18, nth, forB, evalSs, evalS, evalT, evalE, evalEs, Out.bind, Out.fl, EV.d, EV.free, EV.fit, BT.fit, lift, liftB, cmpop, truth, assign, optFl, Fl.call, isD_nn, isD_bb, isN, scal_if, LIM, hix, eqs, binop_add, hnil, lenl, scal, cs, h40, hn, h0, h41]
    | cons p st =>
      obtain ⟨_, hp2, hmst, _⟩ := iv.l
      have hne : eqD (.lst (cs (p :: st))) (.lst []) = some false := by
        have := cD_nil (p :: st)
        simpa [cD, cs] using this
      have hlast : idxD (.lst (cs (p :: st))) (.int (-1)) = some (.int p.length) := cD_last p st
      have hlen : biD .len [.lst (cs (p :: st))] = some (.int ((st.length + 1 : Nat) : Int)) := by rw [lenl, cs_len]; simp
      by_cases hm : p.length < 2
      · have hm' : (p.length : Int) < 2 := by omega
        have hm2 : ¬ (p.length : Int) = 2 := by omega
        by_cases h40 : t = [40]
        · subst h40
          by_cases h4 : st.length + 1 < 4
          · refine ⟨fun h => by simp [stepT, more, hm, h4] at h, fun st' res' h => ?_⟩
            have : st' = [] :: p :: st ∧ res' = none := by simp [stepT, more, hm, h4] at h; exact ⟨h.1.symm, h.2.symm⟩
            obtain ⟨rfl, rfl⟩ := this
            have h4' : ((st.length + 1 : Nat) : Int) < 4 := by omega
            have hlt : (cs (p :: st)).length < 1000000 := by rw [cs_len]; simp; omega
            refine ⟨some (0, .str [40]), some (0, .bl true), some (0, .bl false), ?_⟩
            have e5 : cs ([] :: p :: st) = cs (p :: st) ++ [.int 0] := cs_cons [] (p :: st)
            show evalSs C W bd18 (r18 ts (cs (p :: st)) false _ _ _ _ sto) = .next (r18 ts (cs ([] :: p :: st)) false _ _ _ _ sto)
            rw [e5]
            generalize cs (p :: st) = z at *
            simp [bd18, b18, nth, forB, evalSs, evalS, evalT, evalE, evalEs, Out.bind, Out.fl, EV.d, EV.free, EV.fit, BT.fit, lift, liftB, cmpop, truth, assign, optFl, Fl.call, isD_nn, isD_bb, isN, scal_if, LIM, hix, eqs, binop_add, hne, hlast, hm', hlen, h4', scal, hlt, -Int.natCast_add, -Int.natCast_succ]
          · refine ⟨fun _ => ?_, fun st' res' h => by simp [stepT, more, hm, h4, num40] at h⟩
            have h4' : ¬ ((st.length + 1 : Nat) : Int) < 4 := by omega
            show evalSs C W bd18 (r18 ts (cs (p :: st)) false _ _ _ _ sto) = _
            generalize cs (p :: st) = z at *
            simp [bd18, b18, nth, forB, evalSs, evalS, evalT, evalE, evalEs, Out.bind, Out.fl, EV.d, EV.free, EV.fit, BT.fit, lift, liftB, cmpop, truth, assign, optFl, Fl.call, isD_nn, isD_bb, isN, scal_if, LIM, hix, eqs, binop_add, hne, hlast, hm', hlen, h4', scal, hn, num40, -Int.natCast_add, -Int.natCast_succ]
        · by_cases h0 : 0 ≤ numIn t
          · have h41 : t ≠ [41] := fun z => by rw [z, num41] at h0; omega
            refine ⟨fun h => by simp [stepT, more, h40, h0, hm, put] at h, fun st' res' h => ?_⟩
            have : ∃ v, st' = (p ++ [v]) :: st ∧ res' = none := by
              simp [stepT, more, h40, h0, hm, put] at h
              exact ⟨_, h.1.symm, h.2.symm⟩
            obtain ⟨v, rfl, rfl⟩ := this
            refine ⟨some (0, .str t), some (0, .bl true), some (0, .bl true), ?_⟩
            have e1 : cs (p :: st) = cs st ++ [.int (p.length : Int)] := cs_cons p st
            have e2 : cs ((p ++ [v]) :: st) = cs st ++ [.int ((p.length : Int) + 1)] := by rw [cs_cons]; simp
            show evalSs C W bd18 (r18 ts (cs (p :: st)) false _ _ _ _ sto) = .next (r18 ts (cs ((p ++ [v]) :: st)) false _ _ _ _ sto)
            rw [e1] at hne hlast hlen ⊢
            rw [e2]
            generalize cs st = z at *
            simp [bd18, b18, nth, forB, evalSs, evalS, evalT, evalE, evalEs, Out.bind, Out.fl, EV.d, EV.free, EV.fit, BT.fit, lift, liftB, cmpop, truth, assign, optFl, Fl.call, isD_nn, isD_bb, isN, scal_if, LIM, hix, eqs, binop_add, hne, hlast, hm', hlen, scal, hn, h0, h40, h41, ixm1]
          · refine ⟨fun _ => ?_, fun st' res' h => by simp [stepT, more, h40, h0, hm] at h⟩
            show evalSs C W bd18 (r18 ts (cs (p :: st)) false _ _ _ _ sto) = _
            generalize cs (p :: st) = z at *
            by_cases h41 : t = [41]
            · subst h41
              simp [bd18, b18, nth, forB, evalSs, evalS, evalT, evalE, evalEs, Out.bind, Out.fl, EV.d, EV.free, EV.fit, BT.fit, lift, liftB, cmpop, truth, assign, optFl, Fl.call, isD_nn, isD_bb, isN, scal_if, LIM, hix, eqs, eqi, binop_add, hne, hlast, hm', hlen, scal, hn, hm2, num41]
            · simp [bd18, b18, nth, forB, evalSs, evalS, evalT, evalE, evalEs, Out.bind, Out.fl, EV.d, EV.free, EV.fit, BT.fit, lift, liftB, cmpop, truth, assign, optFl, Fl.call, isD_nn, isD_bb, isN, scal_if, LIM, hix, eqs, eqi, binop_add, hne, hlast, hm', hlen, scal, hn, h0, h40, hm2, h41]
      · have hm' : ¬ (p.length : Int) < 2 := by omega
        have hm2 : (p.length : Int) = 2 := by omega
        by_cases h41 : t = [41]
        · subst h41
          obtain ⟨a, b, rfl⟩ : ∃ a b, p = [a, b] := by
            match p, hp2, hm with
            | [a, b], _, _ => exact ⟨a, b, rfl⟩
            | [], _, hm => simp at hm
            | [_], _, hm => simp at hm
            | _ :: _ :: _ :: _, hp2, _ => simp at hp2
          refine ⟨fun h => by simp [stepT, more, put] at h, fun st' res' h => ?_⟩
          have h : put (.pr a b) st = (st', res') := by simpa [stepT, more] using h
          cases st with
          | nil =>
            cases h
            refine ⟨some (0, .str [41]), some (0, .bl false), some (0, .bl true), ?_⟩
            have e1 : cs [[a, b]] = [.int 2] := rfl
            have e2 : cs ([] : List (List Vl)) = [] := rfl
            rw [e1] at hne hlast hlen
            simp [bd18, b18, nth, forB, evalSs, evalS, evalT, evalE, evalEs, Out.bind, Out.fl, EV.d, EV.free, EV.fit, BT.fit, lift, liftB, cmpop, truth, assign, optFl, Fl.call, isD_nn, isD_bb, isN, scal_if, LIM, hix, eqs, eqi, binop_add, hne, hlast, hlen, hnil, e1, e2, scal]
          | cons p2 st2 =>
            cases h
            refine ⟨some (0, .str [41]), some (0, .bl false), some (0, .bl true), ?_⟩
            have hne2 : eqD (.lst (cs (p2 :: st2))) (.lst []) = some false := by
              have := cD_nil (p2 :: st2)
              simpa [cD, cs] using this
            have hlast2 : idxD (.lst (cs (p2 :: st2))) (.int (-1)) = some (.int p2.length) := cD_last p2 st2
            have e1 : cs ([a, b] :: p2 :: st2) = cs (p2 :: st2) ++ [.int 2] := cs_cons [a, b] _
            have e3 : cs (p2 :: st2) = cs st2 ++ [.int (p2.length : Int)] := cs_cons p2 st2
            have e2 : cs ((p2 ++ [.pr a b]) :: st2) = cs st2 ++ [.int ((p2.length : Int) + 1)] := by rw [cs_cons]; simp
            show evalSs C W bd18 (r18 ts (cs ([a, b] :: p2 :: st2)) false _ _ _ _ sto) = .next (r18 ts (cs ((p2 ++ [.pr a b]) :: st2)) false _ _ _ _ sto)
            rw [e1] at hne hlast hlen ⊢
            rw [e3] at hne hlast hlen hne2 hlast2 ⊢
            rw [e2]
            have hl2 : idxD (.lst (cs st2 ++ [.int (p2.length : Int)] ++ [.int 2])) (.int (-1)) = some (.int 2) := idx_lastD _ _
            generalize cs st2 = z at *
            have dl : (z ++ [D.int (p2.length : Int)] ++ [D.int 2]).dropLast = z ++ [D.int (p2.length : Int)] := List.dropLast_concat
            have ie : (z ++ [D.int (p2.length : Int)] ++ [D.int 2]).isEmpty = false := by simp
            rw [List.append_assoc] at hne hl2 dl ie hlen ⊢
            simp only [List.singleton_append, List.cons_append, List.nil_append] at hne hl2 dl ie hlen ⊢
            simp [bd18, b18, nth, forB, evalSs, evalS, evalT, evalE, evalEs, Out.bind, Out.fl, EV.d, EV.free, EV.fit, BT.fit, lift, liftB, cmpop, truth, assign, optFl, Fl.call, isD_nn, isD_bb, isN, scal_if, LIM, hix, eqs, eqi, binop_add, hne, hl2, hne2, hlast2, hlen, scal, ixm1, dl, ie]
        · by_cases h40 : t = [40]
          · subst h40
            refine ⟨fun _ => ?_, fun st' res' h => by simp [stepT, more, hm] at h⟩
            show evalSs C W bd18 (r18 ts (cs (p :: st)) false _ _ _ _ sto) = _
            generalize cs (p :: st) = z at *
            simp [bd18, b18, nth, forB, evalSs, evalS, evalT, evalE, evalEs, Out.bind, Out.fl, EV.d, EV.free, EV.fit, BT.fit, lift, liftB, cmpop, truth, assign, optFl, Fl.call, isD_nn, isD_bb, isN, scal_if, LIM, hix, eqs, binop_add, hne, hlast, hm', hlen, scal, hn, num40]
          · refine ⟨fun _ => ?_, fun st' res' h => by simp [stepT, more, h40, h41, hm] at h⟩
            show evalSs C W bd18 (r18 ts (cs (p :: st)) false _ _ _ _ sto) = _
            generalize cs (p :: st) = z at *
            by_cases h0 : 0 ≤ numIn t
            · simp [bd18, b18, nth, forB, evalSs, evalS, evalT, evalE, evalEs, Out.bind, Out.fl, EV.d, EV.free, EV.fit, BT.fit, lift, liftB, cmpop, truth, assign, optFl, Fl.call, isD_nn, isD_bb, isN, scal_if, LIM, hix, eqs, binop_add, hne, hlast, hm', hlen, scal, hn, h40, h41, h0]
            · simp [bd18, b18, nth, forB, evalSs, evalS, evalT, evalE, evalEs, Out.bind, Out.fl, EV.d, EV.free, EV.fit, BT.fit, lift, liftB, cmpop, truth, assign, optFl, Fl.call, isD_nn, isD_bb, isN, scal_if, LIM, hix, eqs, binop_add, hne, hlast, hm', hlen, scal, hn, h40, h41, h0]
end K89
end

section
set_option pp.maxSteps 1500
namespace K89
open BT
variable {W n : Nat} {sto : Sto} {C : Nat → List D → Sto → CR}
abbrev rngD (i m : Nat) : List D := (List.range' i m).map fun (j : Nat) => .int (j : Int)
theorem loop18 {ts : List Tkn} (hC : NumC C 13 sto) (ht : ∀ t ∈ ts, t.length ≤ 1000000) : ∀ (us : List Tkn) (i : Nat) (st : List (List Vl)) (res : Option Vl) (x3 x4 x5 x6 : Option (Nat × D)), ts.drop i = us → Iv st res →
    ((rd us i st res).1 ≠ 0 ∧ forL (fun d s2 => match assign (.name 3) 0 d s2 with
        | some s3 => evalSs C W bd18 s3
        | none => .err) (rngD i us.length) (t18 ts st res.isSome x3 x4 x5 x6 sto) = .ret 0 (.int ((rd us i st res).1 : Nat)) sto) ∨
    (∃ st' res' y3 y4 y5 y6, forL (fun d s2 => match assign (.name 3) 0 d s2 with
        | some s3 => evalSs C W bd18 s3
        | none => .err) (rngD i us.length) (t18 ts st res.isSome x3 x4 x5 x6 sto) = .next (t18 ts st' res'.isSome y3 y4 y5 y6 sto) ∧ rd us i st res = rd [] (i + us.length) st' res')
  | [], i, st, res, x3, x4, x5, x6, h, iv => .inr ⟨st, res, x3, x4, x5, x6, rfl, rfl⟩
  | t :: us, i, st, res, x3, x4, x5, x6, h, iv => by
    have hi : ts[i]? = some t := by
      have := congrArg List.head? h
      rw [List.head?_drop] at this
      simpa using this
    have hd : ts.drop (i + 1) = us := by rw [← List.drop_drop, h]; rfl
    have htl := ht t (List.mem_of_getElem? hi)
    have hr : rngD i (t :: us).length = .int (i : Int) :: rngD (i + 1) us.length := by simp [rngD, List.range'_succ]
    have ha : assign (.name 3) 0 (.int (i : Int)) (t18 ts st res.isSome x3 x4 x5 x6 sto) = some (t18 ts st res.isSome (some (0, .int (i : Int))) x4 x5 x6 sto) := by simp [assign]
    obtain ⟨q1, q2⟩ := turn18 (W := W) (x4 := x4) (x5 := x5) (x6 := x6) hC hi htl iv
    cases hs : stepT st res t with
    | none =>
      have e : rd (t :: us) i st res = (i + 1, none) := by unfold rd; rw [hs]
      refine .inl ⟨by rw [e]; simp, ?_⟩
      rw [hr, forL_ret (by simp only [ha]; exact q1 hs), e]
      simp
    | some p =>
      obtain ⟨st', res'⟩ := p
      have e : rd (t :: us) i st res = rd us (i + 1) st' res' := by conv => lhs; unfold rd; rw [hs]
      obtain ⟨y4, y5, y6, g⟩ := q2 st' res' hs
      rcases loop18 hC ht us (i + 1) st' res' (some (0, .int (i : Int))) y4 y5 y6 hd (step_iv iv hs).2.1 with ⟨r1, r2⟩ | ⟨st2, res2, z3, z4, z5, z6, r1, r2⟩
      · refine .inl ⟨by rw [e]; exact r1, ?_⟩
        rw [hr, forL_next (by simp only [ha]; exact g), r2, e]
      · refine .inr ⟨st2, res2, z3, z4, z5, z6, ?_, ?_⟩
        · rw [hr, forL_next (by simp only [ha]; exact g), r1]
        · rw [e, r2]
          congr 1
          simp; omega
theorem fault_ok {ts : List Tkn} (ht : ∀ t ∈ ts, t.length ≤ 1000000) (hl : ts.length < 1000000) : callF Tbl W (n + 2) 18 [tl ts] sto = .ok 0 (.int ((rd ts 0 [] none).1 : Nat)) sto := by
  rw [callF_eq (fd := ⟨1, 7, b18⟩) rfl rfl (by decide)]
  have hC : NumC (callF Tbl W (n + 1)) 13 sto := fun t h => num13_ok h
  have hb : b18 = .cons (nth b18 0) (.cons (nth b18 1) (.cons (nth b18 2) (.cons (nth b18 3) .nil))) := rfl
  have hf : nth b18 2 = .for (.name 3) (.range1 (.bi .len (.cons (.bor 0) .nil))) bd18 := rfl
  have hlen : biD .len [tl ts] = some (.int (ts.length : Int)) := by simp [biD]
  have hi : evalI (callF Tbl W (n + 1)) (.range1 (.bi .len (.cons (.bor 0) .nil))) (t18 ts [] false none none none none sto) = .ok (rngD 0 ts.length) (t18 ts [] false none none none none sto) := by
    have := evalI_range1 (C := callF Tbl W (n + 1)) (e := .bi .len (.cons (.bor 0) .nil)) (s := t18 ts [] false none none none none sto) (s1 := t18 ts [] false none none none none sto) (x := .own 0 (.int ((ts.length : Nat) : Int))) (n := (ts.length : Nat)) (by simp [evalSs, evalS, evalT, evalE, evalEs, Out.bind, Out.fl, EV.d, EV.free, EV.fit, BT.fit, lift, liftB, cmpop, truth, assign, optFl, Fl.call, isD_nn, isD_bb, isN, scal_if, LIM, hlen]) rfl (by omega) (by omega)
    rw [this]
    simp [rngD, List.range_eq_range']
  show (evalSs (callF Tbl W (n + 1)) W b18 ⟨[some (0, tl ts), none, none, none, none, none, none], sto⟩).call = _
  rw [hb, ev_next (s' := ⟨[some (0, tl ts), some (1, .lst []), none, none, none, none, none], sto⟩) (by simp [b18, nth, evalSs, evalS, evalT, evalE, evalEs, Out.bind, Out.fl, EV.d, EV.free, EV.fit, BT.fit, lift, liftB, cmpop, truth, assign, optFl, Fl.call, isD_nn, isD_bb, isN, scal_if, LIM]), ev_next (s' := t18 ts [] false none none none none sto) (by simp [b18, nth, evalSs, evalS, evalT, evalE, evalEs, Out.bind, Out.fl, EV.d, EV.free, EV.fit, BT.fit, lift, liftB, cmpop, truth, assign, optFl, Fl.call, isD_nn, isD_bb, isN, scal_if, LIM, cs]), hf]
  rcases loop18 (W := W) hC ht ts 0 [] none none none none none (by simp) iv0 with ⟨r1, r2⟩ | ⟨st, res, y3, y4, y5, y6, r1, r2⟩
  · rw [ev_ret (ev_for hi r2)]
    rfl
  · rw [ev_next (ev_for hi r1), r2]
    cases res with
    | some v => simp [b18, nth, evalSs, evalS, evalT, evalE, evalEs, Out.bind, Out.fl, EV.d, EV.free, EV.fit, BT.fit, lift, liftB, cmpop, truth, assign, optFl, Fl.call, isD_nn, isD_bb, isN, scal_if, LIM, rd]
    | none => simp [b18, nth, evalSs, evalS, evalT, evalE, evalEs, Out.bind, Out.fl, EV.d, EV.free, EV.fit, BT.fit, lift, liftB, cmpop, truth, assign, optFl, Fl.call, isD_nn, isD_bb, isN, scal_if, LIM, rd, hlen, binop_add]
/-! ### takes_more -/
abbrev pd (p : List Vl) : D := .lst (p.map Vl.d)
abbrev pds (st : List (List Vl)) : List D := st.reverse.map pd
theorem vd_plain : ∀ v : Vl, plain v.d = true ∧ dep v.d = v.dp ∧ noX v.d = true ∧ noL v.d = true
  | .num n => ⟨rfl, rfl, rfl, rfl⟩
  | .pr a b => by
    obtain ⟨a1, a2, a3, a4⟩ := vd_plain a
    obtain ⟨b1, b2, b3, b4⟩ := vd_plain b
    refine ⟨by simp [Vl.d, plain, plainL, a1, b1], ?_, by simp [Vl.d, noX, noXL, a3, b3], by simp [Vl.d, noL, noLL, a4, b4]⟩
    simp [Vl.d, dep, depL, a2, b2, Vl.dp]
theorem vds_plain : ∀ p : List Vl, (∀ v ∈ p, v.dp ≤ 4) → plainL (p.map Vl.d) = true ∧ depL (p.map Vl.d) ≤ 4
  | [], _ => ⟨rfl, by simp [depL]⟩
  | v :: p, h => by
    obtain ⟨h1, h2⟩ := vds_plain p fun w m => h w (by simp [m])
    obtain ⟨v1, v2, _⟩ := vd_plain v
    have := h v (by simp)
    exact ⟨by simp [plainL, v1, h1], by simp [depL, v2]; omega⟩
theorem lv_dp : ∀ {st : List (List Vl)}, lv st → ∀ p ∈ st, ∀ v ∈ p, v.dp ≤ 4
  | q :: st, h, p, m, v, mv => by
    obtain ⟨h1, _, _, h4⟩ := h
    rcases List.mem_cons.mp m with rfl | m
    · have := (h1 v mv).1; omega
    · exact lv_dp h4 p m v mv
theorem pds_plain : ∀ (ps : List (List Vl)), (∀ p ∈ ps, ∀ v ∈ p, v.dp ≤ 4) → plainL (ps.map pd) = true ∧ depL (ps.map pd) ≤ 5
  | [], _ => ⟨rfl, by simp [depL]⟩
  | p :: ps, h => by
    obtain ⟨h1, h2⟩ := pds_plain ps fun q m => h q (by simp [m])
    obtain ⟨p1, p2⟩ := vds_plain p (h p (by simp))
    exact ⟨by simp [plainL, plain, p1, h1], by simp [depL, dep]; omega⟩
theorem pds_ok {st : List (List Vl)} (h : lv st) : plain (.lst (pds st)) = true ∧ eqD (.lst (pds st)) (.lst []) = some (decide (st = [])) := by
  obtain ⟨h1, h2⟩ := pds_plain st.reverse fun p m v mv => lv_dp h p (by simpa using m) v mv
  have h2 : depL (pds st) ≤ 5 := h2
  have h1 : plainL (pds st) = true := h1
  refine ⟨h1, ?_⟩
  have hd : dep (.lst (pds st)) ≤ 100 := by simp only [dep]; omega
  simp only [eqD, okD, plain, h1, plainL, decide_eq_true hd]
  cases st with
  | nil => simp [dep, depL, eqB, eqL]
  | cons p st =>
    simp only [eqB, pds, List.reverse_cons, List.map_append, List.map_cons, List.map_nil]
    cases hq : (st.reverse.map pd) <;> simp [eqL, dep, depL]
theorem pds_cons (p : List Vl) (st : List (List Vl)) : pds (p :: st) = pds st ++ [pd p] := by simp [pds]
theorem more_ok {st : List (List Vl)} (h : lv st) : callF Tbl W (n + 1) 4 [.lst (pds st)] sto = .ok 0 (.bl (more st)) sto := by
  rw [callF_eq (fd := ⟨1, 1, b4⟩) rfl rfl (by decide)]
  have he := (pds_ok h).2
  cases st with
  | nil =>
    have e : pds [] = [] := rfl
    rw [e] at he ⊢
    simp [b4, evalSs, evalS, evalT, evalE, evalEs, Out.bind, Out.fl, EV.d, EV.free, EV.fit, BT.fit, lift, liftB, cmpop, truth, assign, optFl, Fl.call, isD_nn, isD_bb, isN, scal_if, LIM, he, more]
  | cons p st =>
    rw [pds_cons] at he ⊢
    have hl := idx_lastD (pds st) (pd p)
    have hlen : biD .len [pd p] = some (.int (p.length : Int)) := by simp [biD]
    generalize pds st = z at *
    simp [b4, evalSs, evalS, evalT, evalE, evalEs, Out.bind, Out.fl, EV.d, EV.free, EV.fit, BT.fit, lift, liftB, cmpop, truth, assign, optFl, Fl.call, isD_nn, isD_bb, isN, scal_if, LIM, he, hl, hlen, more, scal]
    omega
/-! ### read_value -/
def resD : Option Vl → D
  | none => .non
  | some v => v.d
theorem isV (v : Vl) : isD v.d .non = some false := by cases v <;> rfl
def bd5 : CSs := forB (nth b5 3)
abbrev r5 (L : List Nat) (ts : List Tkn) (ps : List D) (res : D) (x4 x5 x6 x7 : Option (Nat × D)) (sto : Sto) : S := ⟨[some (0, .str L), some (0, tl ts), some (2, .lst ps), some (0, res), x4, x5, x6, x7], sto⟩
def MoreC (C : Nat → List D → Sto → CR) : Prop := ∀ st, lv st → C 4 [.lst (pds st)] [] = .ok 0 (.bl (more st)) []
theorem log2_1 : Nat.log2 1 = 0 := by decide +kernel
theorem turn5 {L : List Nat} {ts : List Tkn} {st : List (List Vl)} {res : Option Vl} {i : Nat} {t : Tkn} {x6 x7 : Option (Nat × D)} (hC : NumC C 1 sto) (hM : MoreC C) (hi : i < 900000) (ht : t.length ≤ 1000000) (iv : Iv st res) :
    (stepT st res t = none → ∃ s', s'.sto = sto ∧ evalSs C W bd5 (r5 L ts (pds st) (resD res) (some (0, .int (i : Int))) (some (0, .str t)) x6 x7 sto) = .exc ⟨1, [.int 1, .int ((i : Int) + 1)]⟩ s') ∧
    (∀ st' res', stepT st res t = some (st', res') → ∃ y6 y7, evalSs C W bd5 (r5 L ts (pds st) (resD res) (some (0, .int (i : Int))) (some (0, .str t)) x6 x7 sto) = .next (r5 L ts (pds st') (resD res') (some (0, .int (i : Int))) (some (0, .str t)) y6 y7 sto)) := by
  have hn := hC t ht
  have hnil : eqD (.lst []) (.lst []) = some true := by decide
  have hlog : ((i : Int) + 1).natAbs.log2 < 1920 := by
    have := log_small (i := i + 1) (by omega)
    simpa using this
  cases res with
  | some v =>
    refine ⟨fun _ => ⟨r5 L ts (pds st) v.d (some (0, .int (i : Int))) (some (0, .str t)) (some (0, .non)) x7 sto, rfl, ?_⟩, fun st' res' h => by simp [stepT] at h⟩
    · simp [bd5, b5, nth, forB, evalSs, evalS, evalT, evalE, evalEs, Out.bind, Out.fl, EV.d, EV.free, EV.fit, BT.fit, lift, liftB, cmpop, truth, assign, optFl, Fl.call, isD_nn, isD_bb, isN, scal_if, LIM, resD, isV, binop_add, okF, log2_1, hlog]
  | none =>
    have hm := hM st iv.l
    obtain ⟨hpl, hen⟩ := pds_ok iv.l
    cases st with
    | nil =>
      have e0 : pds [] = [] := rfl
      rw [e0] at hm hpl hen
      by_cases h40 : t = [40]
      · subst h40
        refine ⟨fun h => by simp [stepT, more] at h, fun st' res' h => ?_⟩
        have : st' = [[]] ∧ res' = none := by simp [stepT, more] at h; exact ⟨h.1.symm, h.2.symm⟩
        obtain ⟨rfl, rfl⟩ := this
        refine ⟨some (0, .non), x7, ?_⟩
        have e1 : pds [[]] = [.lst []] := rfl
        simp [bd5, b5, nth, forB, evalSs, evalS, evalT, evalE, evalEs, Out.bind, Out.fl, EV.d, EV.free, EV.fit, BT.fit, lift, liftB, cmpop, truth, assign, optFl, Fl.call, isD_nn, isD_bb, isN, scal_if, LIM, resD, isD_nn, binop_add, e0, e1, hm, hpl, noL, more, eqs, lenl, scal]
      · by_cases h0 : 0 ≤ numIn t
        · have h41 : t ≠ [41] := fun z => by rw [z, num41] at h0; omega
          obtain ⟨m, em, _, _⟩ := numIn_str h0
          refine ⟨fun h => by simp [stepT, more, h40, h0, put] at h, fun st' res' h => ?_⟩
          have : st' = [] ∧ res' = some (.num m) := by
            simp [stepT, more, h40, h0, put] at h
            refine ⟨h.1, ?_⟩
            rw [← h.2, em]
            rfl
          obtain ⟨rfl, rfl⟩ := this
          rw [em] at hn
          refine ⟨some (0, .int m), x7, ?_⟩
          simp [bd5, b5, nth, forB, evalSs, evalS, evalT, evalE, evalEs, Out.bind, Out.fl, EV.d, EV.free, EV.fit, BT.fit, lift, liftB, cmpop, truth, assign, optFl, Fl.call, isD_nn, isD_bb, isN, scal_if, LIM, resD, isD_nn, isN, binop_add, e0, hm, hpl, noL, more, eqs, lenl, scal, h40, h41, hn, hen, Vl.d]
        · refine ⟨fun _ => ⟨r5 L ts [] .non (some (0, .int (i : Int))) (some (0, .str t)) (some (0, .non)) x7 sto, rfl, ?_⟩, fun st' res' h => by simp [stepT, more, h40, h0] at h⟩
          · by_cases h41 : t = [41]
            · subst h41
              simp [bd5, b5, nth, forB, evalSs, evalS, evalT, evalE, evalEs, Out.bind, Out.fl, EV.d, EV.free, EV.fit, BT.fit, lift, liftB, cmpop, truth, assign, optFl, Fl.call, isD_nn, isD_bb, isN, scal_if, LIM, resD, isD_nn, binop_add, e0, hm, hpl, noL, more, eqs, lenl, scal, hn, num41, okF, log2_1, hlog]
            · simp [bd5, b5, nth, forB, evalSs, evalS, evalT, evalE, evalEs, Out.bind, Out.fl, EV.d, EV.free, EV.fit, BT.fit, lift, liftB, cmpop, truth, assign, optFl, Fl.call, isD_nn, isD_bb, isN, scal_if, LIM, resD, isD_nn, binop_add, e0, hm, hpl, noL, more, eqs, lenl, scal, h40, h41, hn, h0, okF, log2_1, hlog]
    | cons p st =>
      obtain ⟨_, hp2, hmst, _⟩ := iv.l
      have hlen : biD .len [.lst (pds (p :: st))] = some (.int ((st.length + 1 : Nat) : Int)) := by simp [biD, pds]
      have hen : eqD (.lst (pds (p :: st))) (.lst []) = some false := by rw [hen]; simp
      by_cases hm2 : p.length < 2
      · have hmo : more (p :: st) = true := by simp [more, hm2]
        rw [hmo] at hm
        by_cases h40 : t = [40]
        · subst h40
          by_cases h4 : st.length + 1 < 4
          · refine ⟨fun h => by simp [stepT, more, hm2, h4] at h, fun st' res' h => ?_⟩
            have : st' = [] :: p :: st ∧ res' = none := by simp [stepT, more, hm2, h4] at h; exact ⟨h.1.symm, h.2.symm⟩
            obtain ⟨rfl, rfl⟩ := this
            have h4' : ((st.length + 1 : Nat) : Int) < 4 := by omega
            have hlt : (pds (p :: st)).length < 1000000 := by simp [pds]; omega
            refine ⟨some (0, .non), x7, ?_⟩
            have e5 : pds ([] :: p :: st) = pds (p :: st) ++ [.lst []] := pds_cons [] (p :: st)
            rw [e5]
            generalize pds (p :: st) = z at *
            simp [bd5, b5, nth, forB, evalSs, evalS, evalT, evalE, evalEs, Out.bind, Out.fl, EV.d, EV.free, EV.fit, BT.fit, lift, liftB, cmpop, truth, assign, optFl, Fl.call, isD_nn, isD_bb, isN, scal_if, LIM, resD, isD_nn, binop_add, hm, hpl, noL, eqs, hlen, scal, h4', hlt, -Int.natCast_add, -Int.natCast_succ]
          · refine ⟨fun _ => ⟨r5 L ts (pds (p :: st)) .non (some (0, .int (i : Int))) (some (0, .str [40])) (some (0, .non)) x7 sto, rfl, ?_⟩, fun st' res' h => by simp [stepT, more, hm2, h4, num40] at h⟩
            · have h4' : ¬ ((st.length + 1 : Nat) : Int) < 4 := by omega
              generalize pds (p :: st) = z at *
              simp [bd5, b5, nth, forB, evalSs, evalS, evalT, evalE, evalEs, Out.bind, Out.fl, EV.d, EV.free, EV.fit, BT.fit, lift, liftB, cmpop, truth, assign, optFl, Fl.call, isD_nn, isD_bb, isN, scal_if, LIM, resD, isD_nn, binop_add, hm, hpl, noL, eqs, hlen, scal, h4', hn, num40, okF, log2_1, hlog, -Int.natCast_add, -Int.natCast_succ]
        · by_cases h0 : 0 ≤ numIn t
          · have h41 : t ≠ [41] := fun z => by rw [z, num41] at h0; omega
            obtain ⟨m, em, _, _⟩ := numIn_str h0
            refine ⟨fun h => by simp [stepT, more, h40, h0, hm2, put] at h, fun st' res' h => ?_⟩
            have : st' = (p ++ [.num m]) :: st ∧ res' = none := by
              simp [stepT, more, h40, h0, hm2, put] at h
              refine ⟨?_, h.2.symm⟩
              rw [← h.1, em]
              rfl
            obtain ⟨rfl, rfl⟩ := this
            rw [em] at hn
            refine ⟨some (0, .int m), x7, ?_⟩
            have e1 : pds (p :: st) = pds st ++ [.lst (p.map Vl.d)] := pds_cons p st
            have e2 : pds ((p ++ [.num m]) :: st) = pds st ++ [.lst (p.map Vl.d ++ [.int m])] := by rw [pds_cons]; simp [Vl.d]
            have hlt : (p.map Vl.d).length < 1000000 := by simp; omega
            rw [e1] at hm hpl hlen hen ⊢
            rw [e2]
            generalize pds st = z at *
            generalize p.map Vl.d = y at *
            simp [bd5, b5, nth, forB, evalSs, evalS, evalT, evalE, evalEs, Out.bind, Out.fl, EV.d, EV.free, EV.fit, BT.fit, lift, liftB, cmpop, truth, assign, optFl, Fl.call, isD_nn, isD_bb, isN, scal_if, LIM, resD, isD_nn, isN, binop_add, hm, hpl, noL, eqs, hlen, scal, h40, h41, hn, hen, hlt]
          · refine ⟨fun _ => ⟨r5 L ts (pds (p :: st)) .non (some (0, .int (i : Int))) (some (0, .str t)) (some (0, .non)) x7 sto, rfl, ?_⟩, fun st' res' h => by simp [stepT, more, h40, h0, hm2] at h⟩
            · generalize pds (p :: st) = z at *
              by_cases h41 : t = [41]
              · subst h41
                simp [bd5, b5, nth, forB, evalSs, evalS, evalT, evalE, evalEs, Out.bind, Out.fl, EV.d, EV.free, EV.fit, BT.fit, lift, liftB, cmpop, truth, assign, optFl, Fl.call, isD_nn, isD_bb, isN, scal_if, LIM, resD, isD_nn, binop_add, hm, hpl, noL, eqs, hlen, scal, hn, num41, okF, log2_1, hlog]
              · simp [bd5, b5, nth, forB, evalSs, evalS, evalT, evalE, evalEs, Out.bind, Out.fl, EV.d, EV.free, EV.fit, BT.fit, lift, liftB, cmpop, truth, assign, optFl, Fl.call, isD_nn, isD_bb, isN, scal_if, LIM, resD, isD_nn, binop_add, hm, hpl, noL, eqs, hlen, scal, h40, h41, hn, h0, okF, log2_1, hlog]
      · have hmo : more (p :: st) = false := by simp [more, hm2]
        rw [hmo] at hm
        by_cases h41 : t = [41]
        · subst h41
          obtain ⟨a, b, rfl⟩ : ∃ a b, p = [a, b] := by
            match p, hp2, hm2 with
            | [a, b], _, _ => exact ⟨a, b, rfl⟩
            | [], _, hm => simp at hm
            | [_], _, hm => simp at hm
            | _ :: _ :: _ :: _, hp2, _ => simp at hp2
          refine ⟨fun h => by simp [stepT, more, put] at h, fun st' res' h => ?_⟩
          have h : put (.pr a b) st = (st', res') := by simpa [stepT, more] using h
          have i0 : idxD (.lst [a.d, b.d]) (.int 0) = some a.d := by simp [idxD, ixN]
          have i1 : idxD (.lst [a.d, b.d]) (.int 1) = some b.d := by simp [idxD, ixN]
          have istup : isD (.tup [a.d, b.d]) .non = some false := rfl
          cases st with
          | nil =>
            cases h
            refine ⟨some (0, .tup [a.d, b.d]), some (0, .lst [a.d, b.d]), ?_⟩
            have e1 : pds [[a, b]] = [.lst [a.d, b.d]] := rfl
            have e2 : pds ([] : List (List Vl)) = [] := rfl
            rw [e1] at hm hpl hlen hen ⊢
            simp [bd5, b5, nth, forB, evalSs, evalS, evalT, evalE, evalEs, Out.bind, Out.fl, EV.d, EV.free, EV.fit, BT.fit, lift, liftB, cmpop, truth, assign, optFl, Fl.call, isD_nn, isD_bb, isN, scal_if, LIM, resD, isD_nn, istup, binop_add, hm, hpl, noL, eqs, hlen, scal, hen, e2, i0, i1, hnil, scal_if, Vl.d]
          | cons p2 st2 =>
            cases h
            have hl2 : p2.length < 2 := by simpa [more] using hmst
            have lv2 : lv (p2 :: st2) := iv.l.2.2.2
            obtain ⟨hpl2, hen2⟩ := pds_ok lv2
            have hen2 : eqD (.lst (pds (p2 :: st2))) (.lst []) = some false := by rw [hen2]; simp
            refine ⟨some (0, .tup [a.d, b.d]), some (0, .lst [a.d, b.d]), ?_⟩
            have e1 : pds ([a, b] :: p2 :: st2) = pds (p2 :: st2) ++ [.lst [a.d, b.d]] := pds_cons [a, b] _
            have e3 : pds (p2 :: st2) = pds st2 ++ [.lst (p2.map Vl.d)] := pds_cons p2 st2
            have e2 : pds ((p2 ++ [.pr a b]) :: st2) = pds st2 ++ [.lst (p2.map Vl.d ++ [.tup [a.d, b.d]])] := by rw [pds_cons]; simp [Vl.d]
            have hlt : (p2.map Vl.d).length < 1000000 := by simp; omega
            rw [e1] at hm hpl hlen hen ⊢
            rw [e3] at hm hpl hlen hen hen2 ⊢
            rw [e2]
            generalize pds st2 = z at *
            generalize p2.map Vl.d = y at *
            have dl : (z ++ [D.lst y] ++ [D.lst [a.d, b.d]]).dropLast = z ++ [D.lst y] := List.dropLast_concat
            rw [List.append_assoc] at hm hpl hlen hen dl ⊢
            simp only [List.singleton_append, List.cons_append, List.nil_append] at hm hpl hlen hen dl ⊢
            simp [bd5, b5, nth, forB, evalSs, evalS, evalT, evalE, evalEs, Out.bind, Out.fl, EV.d, EV.free, EV.fit, BT.fit, lift, liftB, cmpop, truth, assign, optFl, Fl.call, isD_nn, isD_bb, isN, scal_if, LIM, resD, isD_nn, istup, binop_add, hm, hpl, noL, eqs, hlen, scal, hen, hen2, i0, i1, scal_if, dl, hlt]
        · refine ⟨fun _ => ⟨r5 L ts (pds (p :: st)) .non (some (0, .int (i : Int))) (some (0, .str t)) (some (0, .non)) x7 sto, rfl, ?_⟩, fun st' res' h => by simp [stepT, more, h41, hm2] at h⟩
          · generalize pds (p :: st) = z at *
            by_cases h40 : t = [40]
            · subst h40
              by_cases h4 : ((st.length + 1 : Nat) : Int) < 4
              · simp [bd5, b5, nth, forB, evalSs, evalS, evalT, evalE, evalEs, Out.bind, Out.fl, EV.d, EV.free, EV.fit, BT.fit, lift, liftB, cmpop, truth, assign, optFl, Fl.call, isD_nn, isD_bb, isN, scal_if, LIM, resD, isD_nn, binop_add, hm, hpl, noL, eqs, hlen, scal, hn, num40, okF, log2_1, hlog, h4, -Int.natCast_add, -Int.natCast_succ]
              · simp [bd5, b5, nth, forB, evalSs, evalS, evalT, evalE, evalEs, Out.bind, Out.fl, EV.d, EV.free, EV.fit, BT.fit, lift, liftB, cmpop, truth, assign, optFl, Fl.call, isD_nn, isD_bb, isN, scal_if, LIM, resD, isD_nn, binop_add, hm, hpl, noL, eqs, hlen, scal, hn, num40, okF, log2_1, hlog, h4, -Int.natCast_add, -Int.natCast_succ]
            · by_cases h0 : 0 ≤ numIn t
              · simp [bd5, b5, nth, forB, evalSs, evalS, evalT, evalE, evalEs, Out.bind, Out.fl, EV.d, EV.free, EV.fit, BT.fit, lift, liftB, cmpop, truth, assign, optFl, Fl.call, isD_nn, isD_bb, isN, scal_if, LIM, resD, isD_nn, binop_add, hm, hpl, noL, eqs, hlen, scal, h40, h41, hn, h0, okF, log2_1, hlog]
              · simp [bd5, b5, nth, forB, evalSs, evalS, evalT, evalE, evalEs, Out.bind, Out.fl, EV.d, EV.free, EV.fit, BT.fit, lift, liftB, cmpop, truth, assign, optFl, Fl.call, isD_nn, isD_bb, isN, scal_if, LIM, resD, isD_nn, binop_add, hm, hpl, noL, eqs, hlen, scal, h40, h41, hn, h0, okF, log2_1, hlog]
end K89
end

section
set_option pp.maxSteps 1500
namespace K89
open BT
variable {W n : Nat} {sto : Sto} {C : Nat → List D → Sto → CR}
theorem okT_ne {t : Tkn} (h : okT t) : 1 ≤ t.length := by
  rcases h with rfl | rfl | ⟨h, _⟩
  · simp
  · simp
  · cases t with
    | nil => exact absurd rfl h
    | cons _ _ => simp
theorem J_len : ∀ ts : List Tkn, (∀ t ∈ ts, okT t) → ts.length ≤ (J ts).length ∧ ∀ t ∈ ts, t.length ≤ (J ts).length
  | [], _ => ⟨by simp, fun t m => by simp at m⟩
  | [t], h => ⟨by have := okT_ne (h t (by simp)); simpa [J] using this, fun u m => by simp at m; subst m; simp [J]⟩
  | t :: u :: ts, h => by
    obtain ⟨h1, h2⟩ := J_len (u :: ts) fun x m => h x (List.mem_cons_of_mem _ m)
    have h3 := okT_ne (h t (by simp))
    refine ⟨?_, fun x m => ?_⟩
    · simp only [J, List.length_append, List.length_cons] at h1 ⊢
      omega
    · rcases List.mem_cons.mp m with rfl | m
      · simp [J]
      · have := h2 x m
        simp only [J, List.length_append]
        omega
theorem scan_len {L : List Nat} {ts : List Tkn} (h : scan (L.length + 1) L [] = (ts, 0)) : ts.length ≤ L.length ∧ ∀ t ∈ ts, t.length ≤ L.length := by
  obtain ⟨h1, h2⟩ := scan_J h
  have := J_len ts h2
  rwa [h1] at this
theorem loop5 {L : List Nat} {ts : List Tkn} (hC : NumC C 1 sto) (hM : MoreC C) : ∀ (us : List Tkn) (i : Nat) (st : List (List Vl)) (res : Option Vl) (x4 x5 x6 x7 : Option (Nat × D)), i + us.length < 900000 → (∀ t ∈ us, t.length ≤ 1000000) → Iv st res →
    ((rd us i st res).1 ≠ 0 ∧ ∃ s', s'.sto = sto ∧ forL (fun d s2 => match assign (.tup [4, 5]) 0 d s2 with
        | some s3 => evalSs C W bd5 s3
        | none => .err) (enumD i (us.map .str)) (r5 L ts (pds st) (resD res) x4 x5 x6 x7 sto) = .exc ⟨1, [.int 1, .int ((rd us i st res).1 : Nat)]⟩ s') ∨
    (∃ st' res' y4 y5 y6 y7, forL (fun d s2 => match assign (.tup [4, 5]) 0 d s2 with
        | some s3 => evalSs C W bd5 s3
        | none => .err) (enumD i (us.map .str)) (r5 L ts (pds st) (resD res) x4 x5 x6 x7 sto) = .next (r5 L ts (pds st') (resD res') y4 y5 y6 y7 sto) ∧ rd us i st res = rd [] (i + us.length) st' res')
  | [], i, st, res, x4, x5, x6, x7, h, hl, iv => .inr ⟨st, res, x4, x5, x6, x7, rfl, rfl⟩
  | t :: us, i, st, res, x4, x5, x6, x7, h, hl, iv => by
    simp only [List.length_cons] at h
    have htl := hl t (by simp)
    have ha : assign (.tup [4, 5]) 0 (.tup [.int (i : Int), .str t]) (r5 L ts (pds st) (resD res) x4 x5 x6 x7 sto) = some (r5 L ts (pds st) (resD res) (some (0, .int (i : Int))) (some (0, .str t)) x6 x7 sto) := by simp [assign]
    have hr : enumD i ((t :: us).map D.str) = .tup [.int (i : Int), .str t] :: enumD (i + 1) (us.map D.str) := rfl
    obtain ⟨q1, q2⟩ := turn5 (W := W) (L := L) (ts := ts) (x6 := x6) (x7 := x7) (i := i) hC hM (by omega) htl iv
    cases hs : stepT st res t with
    | none =>
      have e : rd (t :: us) i st res = (i + 1, none) := by unfold rd; rw [hs]
      obtain ⟨s', e1, e2⟩ := q1 hs
      refine .inl ⟨by rw [e]; simp, s', e1, ?_⟩
      rw [hr, forL_exc (by simp only [ha]; exact e2), e]
      simp
    | some p =>
      obtain ⟨st', res'⟩ := p
      have e : rd (t :: us) i st res = rd us (i + 1) st' res' := by conv => lhs; unfold rd; rw [hs]
      obtain ⟨y6, y7, g⟩ := q2 st' res' hs
      rcases loop5 (L := L) (ts := ts) hC hM us (i + 1) st' res' (some (0, .int (i : Int))) (some (0, .str t)) y6 y7 (by omega) (fun x m => hl x (List.mem_cons_of_mem _ m)) (step_iv iv hs).2.1 with ⟨r1, s', r2, r3⟩ | ⟨st2, res2, z4, z5, z6, z7, r1, r2⟩
      · refine .inl ⟨by rw [e]; exact r1, s', r2, ?_⟩
        rw [hr, forL_next (by simp only [ha]; exact g), r3, e]
      · refine .inr ⟨st2, res2, z4, z5, z6, z7, ?_, ?_⟩
        · rw [hr, forL_next (by simp only [ha]; exact g), r1]
        · rw [e, r2]
          congr 1
          simp; omega
/-- what read_value gives -/
def rvR (sto : Sto) (L : List Nat) : CR := if (scan (L.length + 1) L []).2 = 0 then (match rd (scan (L.length + 1) L []).1 0 [] none with
  | (0, some v) => .ok 0 v.d sto
  | (k, _) => .exc ⟨1, [.int 1, .int (k : Nat)]⟩ sto) else .exc ⟨1, [.int 1, .int ((scan (L.length + 1) L []).2 : Nat)]⟩ sto
theorem rv_ok {L : List Nat} (hL : L.length < 100000) : callF Tbl W (n + 2) 5 [.str L] sto = rvR sto L := by
  rw [callF_eq (fd := ⟨1, 8, b5⟩) rfl rfl (by decide)]
  have h1 : (1 : Int).natAbs.log2 < 1920 := by decide +kernel
  have hT : callF Tbl W (n + 1) 0 [.str L, .int 1] sto = tokR 1 sto (scan (L.length + 1) L []) := tok_ok h1 hL
  have hC : NumC (callF Tbl W (n + 1)) 1 sto := fun t h => num_ok h
  have hM : MoreC (callF Tbl W (n + 1)) := fun st h => more_ok h
  have hb : b5 = .cons (nth b5 0) (.cons (nth b5 1) (.cons (nth b5 2) (.cons (nth b5 3) (.cons (nth b5 4) (.cons (nth b5 5) .nil))))) := rfl
  have hf : nth b5 3 = .for (.tup [4, 5]) (.enum (.var 1)) bd5 := rfl
  show (evalSs (callF Tbl W (n + 1)) W b5 ⟨[some (0, .str L), none, none, none, none, none, none, none], sto⟩).call = _
  by_cases hq : (scan (L.length + 1) L []).2 = 0
  · have hT : callF Tbl W (n + 1) 0 [.str L, .int 1] sto = .ok 1 (tl (scan (L.length + 1) L []).1) sto := by rw [hT]; unfold tokR; rw [if_pos hq]
    obtain ⟨l1, l2⟩ := scan_len (L := L) (ts := (scan (L.length + 1) L []).1) (Prod.ext rfl hq)
    unfold rvR
    rw [if_pos hq]
    generalize (scan (L.length + 1) L []).1 = ts at *
    have hi : evalI (callF Tbl W (n + 1)) (.enum (.var 1)) ⟨[some (0, .str L), some (1, tl ts), some (2, .lst []), some (0, .non), none, none, none, none], sto⟩ = .ok (enumD 0 (ts.map .str)) (r5 L ts (pds []) (resD none) none none none none sto) := by
      simp [evalI, evalSs, evalS, evalT, evalE, evalEs, Out.bind, Out.fl, EV.d, EV.free, EV.fit, BT.fit, lift, liftB, cmpop, truth, assign, optFl, Fl.call, isD_nn, isD_bb, isN, scal_if, LIM, resD, pds]
    have g0 : evalS (callF Tbl W (n + 1)) W (nth b5 0) ⟨[some (0, .str L), none, none, none, none, none, none, none], sto⟩ = .next ⟨[some (0, .str L), some (1, tl ts), none, none, none, none, none, none], sto⟩ := by
      simp [b5, nth, evalSs, evalS, evalT, evalE, evalEs, Out.bind, Out.fl, EV.d, EV.free, EV.fit, BT.fit, lift, liftB, cmpop, truth, assign, optFl, Fl.call, isD_nn, isD_bb, isN, scal_if, LIM, hT]
    rw [hb, ev_next g0, ev_next (s' := ⟨[some (0, .str L), some (1, tl ts), some (2, .lst []), none, none, none, none, none], sto⟩) (by simp [b5, nth, evalSs, evalS, evalT, evalE, evalEs, Out.bind, Out.fl, EV.d, EV.free, EV.fit, BT.fit, lift, liftB, cmpop, truth, assign, optFl, Fl.call, isD_nn, isD_bb, isN, scal_if, LIM]), ev_next (s' := ⟨[some (0, .str L), some (1, tl ts), some (2, .lst []), some (0, .non), none, none, none, none], sto⟩) (by simp [b5, nth, evalSs, evalS, evalT, evalE, evalEs, Out.bind, Out.fl, EV.d, EV.free, EV.fit, BT.fit, lift, liftB, cmpop, truth, assign, optFl, Fl.call, isD_nn, isD_bb, isN, scal_if, LIM]), hf]
    rcases loop5 (W := W) (L := L) (ts := ts) hC hM ts 0 [] none none none none none (by omega) (fun t m => by have := l2 t m; omega) iv0 with ⟨r1, s', r2, r3⟩ | ⟨st, res, y4, y5, y6, y7, r1, r2⟩
    · rw [ev_exc (ev_for hi r3)]
      cases hrd : rd ts 0 [] none with
      | mk k o =>
        rw [hrd] at r1 r3
        cases k with
        | zero => exact absurd rfl r1
        | succ k =>
          rw [← r2]
          rfl
    · rw [ev_next (ev_for hi r1), r2]
      cases res with
      | some v => simp [b5, nth, evalSs, evalS, evalT, evalE, evalEs, Out.bind, Out.fl, EV.d, EV.free, EV.fit, BT.fit, lift, liftB, cmpop, truth, assign, optFl, Fl.call, isD_nn, isD_bb, isN, scal_if, LIM, rd, resD, isV]
      | none =>
        have hlog := log_small (i := ts.length + 1) (by omega)
        have hlog : ((ts.length : Int) + 1).natAbs.log2 < 1920 := by simpa using hlog
        have hlen : biD .len [tl ts] = some (.int (ts.length : Int)) := by simp [biD]
        simp [b5, nth, evalSs, evalS, evalT, evalE, evalEs, Out.bind, Out.fl, EV.d, EV.free, EV.fit, BT.fit, lift, liftB, cmpop, truth, assign, optFl, Fl.call, isD_nn, isD_bb, isN, scal_if, LIM, rd, resD, isD_nn, hlen, binop_add, okF, log2_1, hlog]
  · have hT : callF Tbl W (n + 1) 0 [.str L, .int 1] sto = .exc ⟨1, [.int 1, .int ((scan (L.length + 1) L []).2 : Nat)]⟩ sto := by rw [hT]; unfold tokR; rw [if_neg hq]
    unfold rvR
    rw [if_neg hq, hb, ev_exc (s' := ⟨[some (0, .str L), none, none, none, none, none, none, none], sto⟩) (x := ⟨1, [.int 1, .int ((scan (L.length + 1) L []).2 : Nat)]⟩) (by simp [b5, nth, evalSs, evalS, evalT, evalE, evalEs, Out.bind, Out.fl, EV.d, EV.free, EV.fit, BT.fit, lift, liftB, cmpop, truth, assign, optFl, Fl.call, isD_nn, isD_bb, isN, scal_if, LIM, hT])]
    rfl
/-- the token of the fault, or 0 -/
def flt (L : List Nat) : Nat := if (scan (L.length + 1) L []).2 = 0 then (rd (scan (L.length + 1) L []).1 0 [] none).1 else (scan (L.length + 1) L []).2
theorem rvR_flt (L : List Nat) : (flt L = 0 → ∃ v : Vl, v.dp ≤ 4 ∧ v.ok 1000 ∧ vt v = L ∧ ∀ sto, rvR sto L = .ok 0 v.d sto) ∧ (flt L ≠ 0 → ∀ sto, rvR sto L = .exc ⟨1, [.int 1, .int (flt L : Nat)]⟩ sto) := by
  unfold flt rvR
  by_cases hq : (scan (L.length + 1) L []).2 = 0
  · simp only [hq, if_true]
    refine ⟨fun h => ?_, fun h sto => ?_⟩
    · obtain ⟨v, h1, h2, h3, h4⟩ := rd_text (l := L) (ts := (scan (L.length + 1) L []).1) (Prod.ext rfl hq) h
      refine ⟨v, h2, h3, h4, fun sto => ?_⟩
      have : rd (scan (L.length + 1) L []).1 0 [] none = (0, some v) := Prod.ext h h1
      rw [this]
      rfl
    · cases hrd : rd (scan (L.length + 1) L []).1 0 [] none with
      | mk k o =>
        rw [hrd] at h
        cases k with
        | zero => exact absurd rfl h
        | succ k => rfl
  · simp only [hq, if_false]
    exact ⟨fun h => h.elim, fun _ _ => trivial⟩
theorem ivt_ok {L : List Nat} (hL : L.length < 100000) : callF Tbl W (n + 3) 6 [.str L] sto = .ok 0 (.bl (decide (flt L = 0))) sto := by
  rw [callF_eq (fd := ⟨1, 1, b6⟩) rfl rfl (by decide)]
  have h5 : callF Tbl W (n + 2) 5 [.str L] sto = rvR sto L := rv_ok hL
  obtain ⟨q1, q2⟩ := rvR_flt L
  by_cases h : flt L = 0
  · obtain ⟨v, _, _, _, e⟩ := q1 h
    rw [e] at h5
    simp [b6, evalSs, evalS, evalT, evalE, evalEs, Out.bind, Out.fl, EV.d, EV.free, EV.fit, BT.fit, lift, liftB, cmpop, truth, assign, optFl, Fl.call, isD_nn, isD_bb, isN, scal_if, LIM, h5, h]
  · have e := q2 h sto
    rw [e] at h5
    simp [b6, evalSs, evalS, evalT, evalE, evalEs, Out.bind, Out.fl, EV.d, EV.free, EV.fit, BT.fit, lift, liftB, cmpop, truth, assign, optFl, Fl.call, isD_nn, isD_bb, isN, scal_if, LIM, h5, h, Fl.outX, noC]
/-! ### texts of values -/
theorem idx_p0 (a b : D) : idxD (.tup [a, b]) (.int 0) = some a := by simp [idxD, ixN]
theorem idx_p1 (a b : D) : idxD (.tup [a, b]) (.int 1) = some b := by simp [idxD, ixN]
theorem str_int {m : Nat} (h : m < 1100) : biD .str [.int (m : Int)] = some (.str (strI (m : Int))) := by
  have := log_small (i := m) (by omega)
  simp only [biD, this, if_true]
theorem vt_ok {f : Nat} (hf : Tbl f = some ⟨1, 1, b3⟩ ∧ f = 3 ∨ Tbl f = some ⟨1, 1, b16⟩ ∧ f = 16) : ∀ (v : Vl) (n : Nat), v.ok 1100 → v.dp ≤ 8 → v.dp < n → callF Tbl W n f [v.d] sto = .ok 0 (.str (vt v)) sto
  | .num m, 0, _, _, h => by simp at h
  | .num m, n + 1, ho, _, _ => by
    have hs := str_int (show m < 1100 from ho)
    rcases hf with ⟨hT, rfl⟩ | ⟨hT, rfl⟩
    · rw [callF_eq hT rfl (by decide)]
      simp [b3, evalSs, evalS, evalT, evalE, evalEs, Out.bind, Out.fl, EV.d, EV.free, EV.fit, BT.fit, lift, liftB, cmpop, truth, assign, optFl, Fl.call, isD_nn, isD_bb, isN, scal_if, LIM, Vl.d, isiD, hs, vt]
    · rw [callF_eq hT rfl (by decide)]
      simp [b16, evalSs, evalS, evalT, evalE, evalEs, Out.bind, Out.fl, EV.d, EV.free, EV.fit, BT.fit, lift, liftB, cmpop, truth, assign, optFl, Fl.call, isD_nn, isD_bb, isN, scal_if, LIM, Vl.d, isiD, hs, vt]
  | .pr a b, 0, _, _, h => by simp at h
  | .pr a b, n + 1, ho, h8, h => by
    simp only [Vl.dp] at h8 h
    have ia := vt_ok hf a n ho.1 (by omega) (by omega)
    have ib := vt_ok hf b n ho.2 (by omega) (by omega)
    have la := vt_len a 8 ho.1 (by omega)
    have lb := vt_len b 8 ho.2 (by omega)
    have a1 := adds (a := [40]) (b := vt a) (by simp; omega)
    have a2 := adds (a := [40] ++ vt a) (b := [32]) (by simp; omega)
    have a3 := adds (a := [40] ++ vt a ++ [32]) (b := vt b) (by simp; omega)
    have a4 := adds (a := [40] ++ vt a ++ [32] ++ vt b) (b := [41]) (by simp; omega)
    simp only [List.append_assoc, List.singleton_append, List.cons_append, List.nil_append] at a1 a2 a3 a4
    rcases hf with ⟨hT, rfl⟩ | ⟨hT, rfl⟩
    · rw [callF_eq hT rfl (by decide)]
      simp [b3, evalSs, evalS, evalT, evalE, evalEs, Out.bind, Out.fl, EV.d, EV.free, EV.fit, BT.fit, lift, liftB, cmpop, truth, assign, optFl, Fl.call, isD_nn, isD_bb, isN, scal_if, LIM, Vl.d, isiD, idx_p0, idx_p1, scal_if, ia, ib, a1, a2, a3, a4, vt]
    · rw [callF_eq hT rfl (by decide)]
      simp [b16, evalSs, evalS, evalT, evalE, evalEs, Out.bind, Out.fl, EV.d, EV.free, EV.fit, BT.fit, lift, liftB, cmpop, truth, assign, optFl, Fl.call, isD_nn, isD_bb, isN, scal_if, LIM, Vl.d, isiD, idx_p0, idx_p1, scal_if, ia, ib, a1, a2, a3, a4, vt]
theorem isint_ok (i : Int) : callF Tbl W (n + 1) 8 [.int i] sto = .ok 0 (.bl true) sto := by
  rw [callF_eq (fd := ⟨1, 1, b8⟩) rfl rfl (by decide)]
  simp [b8, evalSs, evalS, evalT, evalE, evalEs, Out.bind, Out.fl, EV.d, EV.free, EV.fit, BT.fit, lift, liftB, cmpop, truth, assign, optFl, Fl.call, isD_nn, isD_bb, isN, scal_if, LIM, isiD]
theorem eq_ok : ∀ (v : Vl) (n : Nat), v.dp + 1 < n → ∃ k, callF Tbl W n 17 [v.d, v.d] sto = .ok k (.bl true) sto
  | .num m, 0, h => by simp at h
  | .num m, 1, h => by simp at h
  | .num m, n + 2, _ => by
    refine ⟨0, ?_⟩
    rw [callF_eq (fd := ⟨2, 2, b17⟩) rfl rfl (by decide)]
    simp [b17, evalSs, evalS, evalT, evalE, evalEs, Out.bind, Out.fl, EV.d, EV.free, EV.fit, BT.fit, lift, liftB, cmpop, truth, assign, optFl, Fl.call, isD_nn, isD_bb, isN, scal_if, LIM, Vl.d, isiD, isint_ok, eqi]
  | .pr a b, 0, h => by simp at h
  | .pr a b, n + 1, h => by
    simp only [Vl.dp] at h
    obtain ⟨k1, ia⟩ := eq_ok a n (by omega)
    obtain ⟨k2, ib⟩ := eq_ok b n (by omega)
    refine ⟨k2, ?_⟩
    have hl : biD .len [.tup [a.d, b.d]] = some (.int 2) := rfl
    rw [callF_eq (fd := ⟨2, 2, b17⟩) rfl rfl (by decide)]
    simp [b17, evalSs, evalS, evalT, evalE, evalEs, Out.bind, Out.fl, EV.d, EV.free, EV.fit, BT.fit, lift, liftB, cmpop, truth, assign, optFl, Fl.call, isD_nn, isD_bb, isN, scal_if, LIM, Vl.d, isiD, idx_p0, idx_p1, scal_if, ia, ib, hl, eqi]
/-! ### _law_joined -/
theorem idx_lastS {L : List Nat} (h : L ≠ []) (hl : L.length ≤ 1000000) : ∃ c, idxD (.str L) (.int (-1)) = some (.str [c]) := by
  obtain ⟨m, hm⟩ : ∃ m, L.length = m + 1 := ⟨L.length - 1, by have := List.length_pos_iff.mpr h; omega⟩
  obtain ⟨c, hc⟩ : ∃ c, L[m]? = some c := ⟨L[m]'(by omega), by simp [hm]⟩
  refine ⟨c, ?_⟩
  simp only [idxD, LIM, hl, if_true]
  rw [hm, ixm1]
  simp [hc]
def bd19 : CSs := forB (nth b19 1)
theorem loop19 {ts : List Tkn} : ∀ (us : List Tkn) (L : List Nat) (x2 : Option (Nat × D)) (m : Nat), L.length + us.length * 8 ≤ m → m < 100000 → (∀ t ∈ us, t.length ≤ 7) → ∃ (L' : List Nat) (y2 : Option (Nat × D)), L'.length ≤ m ∧ forL (fun d s2 => match assign (.name 2) 0 d s2 with
        | some s3 => evalSs C W bd19 s3
        | none => .err) (us.map .str) ⟨[some (0, tl ts), some (0, .str L), x2], sto⟩ = .next ⟨[some (0, tl ts), some (0, .str L'), y2], sto⟩
  | [], L, x2, m, h, _, _ => ⟨L, x2, by simpa using h, rfl⟩
  | t :: us, L, x2, m, h, hm, ht => by
    simp only [List.length_cons] at h
    have h7 := ht t (by simp)
    have ha : assign (.name 2) 0 (.str t) (⟨[some (0, tl ts), some (0, .str L), x2], sto⟩ : S) = some ⟨[some (0, tl ts), some (0, .str L), some (0, .str t)], sto⟩ := by simp [assign]
    have hs : ∃ L1 : List Nat, L1.length ≤ L.length + 8 ∧ (match assign (.name 2) 0 (.str t) (⟨[some (0, tl ts), some (0, .str L), x2], sto⟩ : S) with
        | some s3 => evalSs C W bd19 s3
        | none => .err) = .next ⟨[some (0, tl ts), some (0, .str L1), some (0, .str t)], sto⟩ := by
      have a1 := adds (a := L) (b := t) (by omega)
      have a2 := adds (a := L) (b := [32]) (by simp; omega)
      have a3 := adds (a := L ++ [32]) (b := t) (by simp; omega)
      simp only [ha]
      by_cases c1 : L = []
      · subst c1
        refine ⟨t, by simp; omega, ?_⟩
        simp only [List.nil_append] at a1
        simp [bd19, b19, nth, forB, evalSs, evalS, evalT, evalE, evalEs, Out.bind, Out.fl, EV.d, EV.free, EV.fit, BT.fit, lift, liftB, cmpop, truth, assign, optFl, Fl.call, isD_nn, isD_bb, isN, scal_if, LIM, eqs, a1]
      · obtain ⟨c, hc⟩ := idx_lastS c1 (by omega)
        by_cases c2 : c = 40
        · exact ⟨L ++ t, by simp; omega, by simp [bd19, b19, nth, forB, evalSs, evalS, evalT, evalE, evalEs, Out.bind, Out.fl, EV.d, EV.free, EV.fit, BT.fit, lift, liftB, cmpop, truth, assign, optFl, Fl.call, isD_nn, isD_bb, isN, scal_if, LIM, eqs, a1, c1, hc, c2]⟩
        · by_cases c3 : t = [41]
          · subst c3
            exact ⟨L ++ [41], by simp, by simp [bd19, b19, nth, forB, evalSs, evalS, evalT, evalE, evalEs, Out.bind, Out.fl, EV.d, EV.free, EV.fit, BT.fit, lift, liftB, cmpop, truth, assign, optFl, Fl.call, isD_nn, isD_bb, isN, scal_if, LIM, eqs, a1, c1, hc, c2]⟩
          · refine ⟨L ++ [32] ++ t, by simp; omega, ?_⟩
            simp only [List.append_assoc] at a3 ⊢
            simp [bd19, b19, nth, forB, evalSs, evalS, evalT, evalE, evalEs, Out.bind, Out.fl, EV.d, EV.free, EV.fit, BT.fit, lift, liftB, cmpop, truth, assign, optFl, Fl.call, isD_nn, isD_bb, isN, scal_if, LIM, eqs, a1, a2, a3, c1, hc, c2, c3]
    obtain ⟨L1, l1, e1⟩ := hs
    obtain ⟨L2, y2, l2, e2⟩ := loop19 us L1 (some (0, .str t)) m (by omega) hm fun x mx => ht x (List.mem_cons_of_mem _ mx)
    exact ⟨L2, y2, l2, by rw [List.map_cons, forL_next e1]; exact e2⟩
theorem join_ok {ts : List Tkn} (hl : ts.length ≤ 10000) (ht : ∀ t ∈ ts, t.length ≤ 7) : ∃ L : List Nat, L.length ≤ 80000 ∧ callF Tbl W (n + 1) 19 [tl ts] sto = .ok 0 (.str L) sto := by
  rw [callF_eq (fd := ⟨1, 3, b19⟩) rfl rfl (by decide)]
  obtain ⟨L, y2, l1, e1⟩ := loop19 (W := W) (C := callF Tbl W n) (sto := sto) (ts := ts) ts [] none 80000 (by simp; omega) (by decide) ht
  refine ⟨L, l1, ?_⟩
  have hb : b19 = .cons (nth b19 0) (.cons (nth b19 1) (.cons (nth b19 2) .nil)) := rfl
  have hf : nth b19 1 = .for (.name 2) (.val (.var 0)) bd19 := rfl
  have hi : evalI (callF Tbl W n) (.val (.var 0)) (⟨[some (0, tl ts), some (0, .str []), none], sto⟩ : S) = .ok (ts.map .str) ⟨[some (0, tl ts), some (0, .str []), none], sto⟩ := by simp [evalI, evalSs, evalS, evalT, evalE, evalEs, Out.bind, Out.fl, EV.d, EV.free, EV.fit, BT.fit, lift, liftB, cmpop, truth, assign, optFl, Fl.call, isD_nn, isD_bb, isN, scal_if, LIM]
  show (evalSs (callF Tbl W n) W b19 ⟨[some (0, tl ts), none, none], sto⟩).call = _
  rw [hb, ev_next (s' := ⟨[some (0, tl ts), some (0, .str []), none], sto⟩) (by simp [b19, nth, evalSs, evalS, evalT, evalE, evalEs, Out.bind, Out.fl, EV.d, EV.free, EV.fit, BT.fit, lift, liftB, cmpop, truth, assign, optFl, Fl.call, isD_nn, isD_bb, isN, scal_if, LIM]), hf, ev_next (ev_for hi e1)]
  simp [b19, nth, evalSs, evalS, evalT, evalE, evalEs, Out.bind, Out.fl, EV.d, EV.free, EV.fit, BT.fit, lift, liftB, cmpop, truth, assign, optFl, Fl.call, isD_nn, isD_bb, isN, scal_if, LIM]
end K89
end

section
set_option pp.maxSteps 1500
namespace K89
open BT
variable {W n : Nat} {sto : Sto} {C : Nat → List D → Sto → CR}
theorem row7 {ns : List Int} {k c : Nat} (hn : ns.length ≤ 63) (hc : c ≤ 900) : ∃ rs : List Int, rs.length = c ∧ callF Tbl W (n + 1) 7 [il ns, .int k, .int c] sto = .ok 1 (il rs) sto := by
  obtain ⟨rs, h1, _, h2⟩ := row_ok (T := Tbl) (f := 7) (W := W) (n := n) (sto := sto) (k := k) rfl hn hc
  exact ⟨rs, h1, h2⟩
theorem pick {xs : List D} {j : Int} (h0 : 0 ≤ j) (h : j < xs.length) : ∃ d ∈ xs, idxD (.lst xs) (.int j) = some d := by
  obtain ⟨m, rfl⟩ := Int.eq_ofNat_of_zero_le h0
  have hm : m < xs.length := by omega
  refine ⟨xs[m], List.getElem_mem hm, ?_⟩
  simp only [idxD]
  rw [ixN_nat hm]
  simp [hm]
theorem pickS {xs : List Nat} {j : Int} (h0 : 0 ≤ j) (h : j < xs.length) (hl : xs.length ≤ 1000000) : ∃ c ∈ xs, idxD (.str xs) (.int j) = some (.str [c]) := by
  obtain ⟨m, rfl⟩ := Int.eq_ofNat_of_zero_le h0
  have hm : m < xs.length := by omega
  refine ⟨xs[m], List.getElem_mem hm, ?_⟩
  simp only [idxD, LIM, hl, if_true]
  rw [ixN_nat hm]
  simp [hm]
theorem idx_l0 (a : D) (r : List D) : idxD (.lst (a :: r)) (.int 0) = some a := by
  have : (0 : Int) < (r.length : Int) + 1 := by omega
  simp [idxD, ixN, this]
theorem mod20 (r : Int) : 0 ≤ r % 20 ∧ r % 20 < 20 := ⟨Int.emod_nonneg _ (by decide), Int.emod_lt_of_pos _ (by decide)⟩
/-! ### _law_word -/
def wl : List (List Nat) := [[40], [41], [40], [41], [48], [55], [49, 50], [57, 57, 57], [49, 48, 48, 48], [48, 48, 55], [97], [108, 101, 116], [97, 98, 99, 100, 101, 102], [97, 98, 99, 100, 101, 102, 103], [65], [61], [58], [120, 49], [45, 49], [49, 47, 50]]
theorem word_ok (r : Int) : ∃ t : Tkn, t.length ≤ 7 ∧ callF Tbl W (n + 1) 10 [.lst [.int r]] sto = .ok 0 (.str t) sto := by
  rw [callF_eq (fd := ⟨1, 2, b10⟩) rfl rfl (by decide)]
  obtain ⟨d, hd, he⟩ := pick (xs := wl.map .str) (j := r % 20) (mod20 r).1 (mod20 r).2
  obtain ⟨t, ht, rfl⟩ := List.mem_map.mp hd
  have hw : ∀ t ∈ wl, t.length ≤ 7 := by decide
  refine ⟨t, hw t ht, ?_⟩
  simp only [wl, List.map] at he
  simp [b10, evalSs, evalS, evalT, evalE, evalEs, Out.bind, Out.fl, EV.d, EV.free, EV.fit, BT.fit, lift, liftB, cmpop, truth, assign, optFl, Fl.call, isD_nn, isD_bb, isN, scal_if, LIM, idx_l0, binop_mod, biD, he, scal]
/-! ### _law_line -/
theorem cut_len {α : Type} (l : List α) (a b : Option Int) : (cutD l a b).length ≤ l.length := by
  simp only [cutD, List.length_take, List.length_drop]
  omega
def bd11 : CSs := forB (nth b11 1)
theorem loop11 {ns : List Int} (hn : ns.length ≤ 63) : ∀ (us : List Nat) (L : List Nat) (x2 x4 : Option (Nat × D)) (m : Nat), L.length + us.length * 8 ≤ m → m < 1000 → ∃ (L' : List Nat) (y2 y4 : Option (Nat × D)), L'.length ≤ m ∧ forL (fun d s2 => match assign (.name 2) 0 d s2 with
        | some s3 => evalSs (callF Tbl W (n + 1)) W bd11 s3
        | none => .err) (us.map fun (i : Nat) => .int (i : Int)) ⟨[some (0, il ns), some (0, .str L), x2, none, x4, none], sto⟩ = .next ⟨[some (0, il ns), some (0, .str L'), y2, none, y4, none], sto⟩
  | [], L, x2, x4, m, h, _ => ⟨L, x2, x4, by simpa using h, rfl⟩
  | i :: us, L, x2, x4, m, h, hm => by
    simp only [List.length_cons] at h
    obtain ⟨rs, l1, h7⟩ := row7 (W := W) (n := n) (sto := sto) (ns := ns) (k := 1 + i) (c := 1) hn (by decide)
    obtain ⟨r, rfl⟩ := List.length_eq_one_iff.mp l1
    have h7 : callF Tbl W (n + 1) 7 [il ns, .int (1 + (i : Int)), .int 1] sto = .ok 1 (.lst [.int r]) sto := by
      have e : ((1 + i : Nat) : Int) = 1 + (i : Int) := by omega
      rw [e] at h7; exact h7
    obtain ⟨t, ht, h10⟩ := word_ok (W := W) (n := n) (sto := sto) r
    have ha : assign (.name 2) 0 (.int (i : Int)) (⟨[some (0, il ns), some (0, .str L), x2, none, x4, none], sto⟩ : S) = some ⟨[some (0, il ns), some (0, .str L), some (0, .int (i : Int)), none, x4, none], sto⟩ := by simp [assign]
    have hs : ∃ L1 : List Nat, L1.length ≤ L.length + 8 ∧ (match assign (.name 2) 0 (.int (i : Int)) (⟨[some (0, il ns), some (0, .str L), x2, none, x4, none], sto⟩ : S) with
        | some s3 => evalSs (callF Tbl W (n + 1)) W bd11 s3
        | none => .err) = .next ⟨[some (0, il ns), some (0, .str L1), some (0, .int (i : Int)), none, some (0, .str t), none], sto⟩ := by
      have a1 := adds (a := L) (b := t) (by omega)
      have a2 := adds (a := L) (b := [32]) (by simp; omega)
      have a3 := adds (a := L ++ [32]) (b := t) (by simp; omega)
      simp only [ha]
      by_cases c1 : L = []
      · subst c1
        refine ⟨t, by simp; omega, ?_⟩
        simp only [List.nil_append] at a1
        simp [bd11, b11, nth, forB, evalSs, evalS, evalT, evalE, evalEs, Out.bind, Out.fl, EV.d, EV.free, EV.fit, BT.fit, lift, liftB, cmpop, truth, assign, optFl, Fl.call, isD_nn, isD_bb, isN, scal_if, LIM, eqs, a1, h7, h10, binop_add]
      · obtain ⟨c, hc⟩ := idx_lastS c1 (by omega)
        by_cases c2 : c = 40
        · exact ⟨L ++ t, by simp; omega, by simp [bd11, b11, nth, forB, evalSs, evalS, evalT, evalE, evalEs, Out.bind, Out.fl, EV.d, EV.free, EV.fit, BT.fit, lift, liftB, cmpop, truth, assign, optFl, Fl.call, isD_nn, isD_bb, isN, scal_if, LIM, eqs, a1, c1, hc, c2, h7, h10, binop_add]⟩
        · by_cases c3 : t = [41]
          · subst c3
            exact ⟨L ++ [41], by simp, by simp [bd11, b11, nth, forB, evalSs, evalS, evalT, evalE, evalEs, Out.bind, Out.fl, EV.d, EV.free, EV.fit, BT.fit, lift, liftB, cmpop, truth, assign, optFl, Fl.call, isD_nn, isD_bb, isN, scal_if, LIM, eqs, a1, c1, hc, c2, h7, h10, binop_add]⟩
          · refine ⟨L ++ [32] ++ t, by simp; omega, ?_⟩
            simp only [List.append_assoc] at a3 ⊢
            simp [bd11, b11, nth, forB, evalSs, evalS, evalT, evalE, evalEs, Out.bind, Out.fl, EV.d, EV.free, EV.fit, BT.fit, lift, liftB, cmpop, truth, assign, optFl, Fl.call, isD_nn, isD_bb, isN, scal_if, LIM, eqs, a1, a2, a3, c1, hc, c2, c3, h7, h10, binop_add]
    obtain ⟨L1, l1, e1⟩ := hs
    obtain ⟨L2, y2, y4, l2, e2⟩ := loop11 hn us L1 (some (0, .int (i : Int))) (some (0, .str t)) m (by omega) hm
    exact ⟨L2, y2, y4, l2, by rw [List.map_cons, forL_next e1]; exact e2⟩
theorem four {α : Type} {l : List α} (h : l.length = 4) : ∃ a b c d, l = [a, b, c, d] := by
  match l, h with
  | [a, b, c, d], _ => exact ⟨a, b, c, d, rfl⟩
theorem line_ok {ns : List Int} (hn : ns.length ≤ 63) : ∃ L : List Nat, L.length ≤ 400 ∧ callF Tbl W (n + 2) 11 [il ns] sto = .ok 0 (.str L) sto := by
  rw [callF_eq (fd := ⟨1, 6, b11⟩) rfl rfl (by decide)]
  obtain ⟨r0, l0, h0⟩ := row7 (W := W) (n := n) (sto := sto) (ns := ns) (k := 0) (c := 1) hn (by decide)
  obtain ⟨r, rfl⟩ := List.length_eq_one_iff.mp l0
  have h0 : callF Tbl W (n + 1) 7 [il ns, .int 0, .int 1] sto = .ok 1 (.lst [.int r]) sto := h0
  obtain ⟨r1, l1, h1⟩ := row7 (W := W) (n := n) (sto := sto) (ns := ns) (k := 11) (c := 4) hn (by decide)
  obtain ⟨a, b, c, d, rfl⟩ := four l1
  have h1 : callF Tbl W (n + 1) 7 [il ns, .int 11, .int 4] sto = .ok 1 (.lst [.int a, .int b, .int c, .int d]) sto := h1
  have i0 : idxD (.lst [.int a, .int b, .int c, .int d]) (.int 0) = some (.int a) := rfl
  have i1 : idxD (.lst [.int a, .int b, .int c, .int d]) (.int 1) = some (.int b) := rfl
  have i2 : idxD (.lst [.int a, .int b, .int c, .int d]) (.int 2) = some (.int c) := rfl
  have i3 : idxD (.lst [.int a, .int b, .int c, .int d]) (.int 3) = some (.int d) := rfl
  have hr : 0 ≤ r % 10 ∧ r % 10 < 10 := ⟨Int.emod_nonneg _ (by decide), Int.emod_lt_of_pos _ (by decide)⟩
  obtain ⟨L, y2, y4, q1, q2⟩ := loop11 (W := W) (n := n) (sto := sto) hn (List.range (r % 10).toNat) [] none none 72 (by simp; omega) (by decide)
  have hb : b11 = .cons (nth b11 0) (.cons (nth b11 1) (.cons (nth b11 2) (.cons (nth b11 3) (.cons (nth b11 4) .nil)))) := rfl
  have hf : nth b11 1 = .for (.name 2) (.range1 (.bin .mod (.idx (.call 7 (.cons (.var 0) (.cons (.int 0) (.cons (.int 1) .nil)))) (.int 0)) (.int 10))) bd11 := rfl
  have hi : evalI (callF Tbl W (n + 1)) (.range1 (.bin .mod (.idx (.call 7 (.cons (.var 0) (.cons (.int 0) (.cons (.int 1) .nil)))) (.int 0)) (.int 10))) (⟨[some (0, il ns), some (0, .str []), none, none, none, none], sto⟩ : S) = .ok ((List.range (r % 10).toNat).map fun (i : Nat) => .int (i : Int)) ⟨[some (0, il ns), some (0, .str []), none, none, none, none], sto⟩ := by
    refine evalI_range1 (x := .own 0 (.int (r % 10))) ?_ rfl (by omega) (by omega)
    simp [evalSs, evalS, evalT, evalE, evalEs, Out.bind, Out.fl, EV.d, EV.free, EV.fit, BT.fit, lift, liftB, cmpop, truth, assign, optFl, Fl.call, isD_nn, isD_bb, isN, scal_if, LIM, h0, idx_l0, binop_mod]
  show ∃ L : List Nat, L.length ≤ 400 ∧ (evalSs (callF Tbl W (n + 1)) W b11 ⟨[some (0, il ns), none, none, none, none, none], sto⟩).call = _
  rw [hb, ev_next (s' := ⟨[some (0, il ns), some (0, .str []), none, none, none, none], sto⟩) (by simp [b11, nth, evalSs, evalS, evalT, evalE, evalEs, Out.bind, Out.fl, EV.d, EV.free, EV.fit, BT.fit, lift, liftB, cmpop, truth, assign, optFl, Fl.call, isD_nn, isD_bb, isN, scal_if, LIM]), hf, ev_next (ev_for hi q2),
    ev_next (s' := ⟨[some (0, il ns), some (0, .str L), y2, some (1, .lst [.int a, .int b, .int c, .int d]), y4, none], sto⟩) (by simp [b11, nth, evalSs, evalS, evalT, evalE, evalEs, Out.bind, Out.fl, EV.d, EV.free, EV.fit, BT.fit, lift, liftB, cmpop, truth, assign, optFl, Fl.call, isD_nn, isD_bb, isN, scal_if, LIM, h1])]
  by_cases c1 : a % 2 = 0
  · have hlen := lens (t := L) (by omega)
    have hm : binop .mod (.int b) (.int ((L.length : Int) + 1)) = some (.int (b % ((L.length : Int) + 1))) := binop_mod (by omega)
    have hx0 := cut_len L none (some (b % ((L.length : Int) + 1)))
    have hx1 := cut_len L (some (b % ((L.length : Int) + 1) + 1)) none
    have hx2 := cut_len L (some (b % ((L.length : Int) + 1))) none
    have hl1 : L.length ≤ 1000000 := by omega
    generalize b % ((L.length : Int) + 1) = p at *
    by_cases c2 : c % 3 = 0
    · refine ⟨cutD L none (some p) ++ cutD L (some (p + 1)) none, by simp; omega, ?_⟩
      have a1 := adds (a := cutD L none (some p)) (b := cutD L (some (p + 1)) none) (by omega)
      simp [b11, nth, evalSs, evalS, evalT, evalE, evalEs, Out.bind, Out.fl, EV.d, EV.free, EV.fit, BT.fit, lift, liftB, cmpop, truth, assign, optFl, Fl.call, isD_nn, isD_bb, isN, scal_if, LIM, evalO, i0, i1, i2, i3, binop_mod, binop_add, biD, eqi, c1, c2, hl1, hm, a1, scal]
    · have hd : 0 ≤ d % 4 ∧ d % 4 < 4 := ⟨Int.emod_nonneg _ (by decide), Int.emod_lt_of_pos _ (by decide)⟩
      obtain ⟨e, he, hp⟩ := pick (xs := [[32], [40], [41], [98]].map .str) (j := d % 4) hd.1 hd.2
      obtain ⟨t, ht, rfl⟩ := List.mem_map.mp he
      have hw : ∀ t ∈ ([[32], [40], [41], [98]] : List (List Nat)), t.length ≤ 1 := by decide
      have ht := hw t ht
      simp only [List.map] at hp
      refine ⟨cutD L none (some p) ++ t ++ cutD L (some p) none, by simp; omega, ?_⟩
      have a1 := adds (a := cutD L none (some p)) (b := t) (by omega)
      have a2 := adds (a := cutD L none (some p) ++ t) (b := cutD L (some p) none) (by simp; omega)
      simp only [List.append_assoc] at a2 ⊢
      simp [b11, nth, evalSs, evalS, evalT, evalE, evalEs, Out.bind, Out.fl, EV.d, EV.free, EV.fit, BT.fit, lift, liftB, cmpop, truth, assign, optFl, Fl.call, isD_nn, isD_bb, isN, scal_if, LIM, evalO, i0, i1, i2, i3, binop_mod, binop_add, biD, eqi, c1, c2, hl1, hm, a1, a2, hp, scal]
  · refine ⟨L, by omega, ?_⟩
    simp [b11, nth, evalSs, evalS, evalT, evalE, evalEs, Out.bind, Out.fl, EV.d, EV.free, EV.fit, BT.fit, lift, liftB, cmpop, truth, assign, optFl, Fl.call, isD_nn, isD_bb, isN, scal_if, LIM, i0, binop_mod, eqi, c1]
end K89
end

section
set_option pp.maxSteps 1500
namespace K89
open BT
variable {W n : Nat} {sto : Sto} {C : Nat → List D → Sto → CR}
/-! ### is_name -/
def bd2 : CSs := forB (nth b2 0)
theorem loop2 {T : Tkn} : ∀ (t : Tkn) (sg : Option (Nat × D)), (t.all lt = true → ∃ sg', forL (fun d s2 => match assign (.name 1) 0 d s2 with
        | some s3 => evalSs C W bd2 s3
        | none => .err) (t.map fun c => .str [c]) ⟨[some (0, .str T), sg], sto⟩ = .next ⟨[some (0, .str T), sg'], sto⟩) ∧
    (¬ t.all lt = true → forL (fun d s2 => match assign (.name 1) 0 d s2 with
        | some s3 => evalSs C W bd2 s3
        | none => .err) (t.map fun c => .str [c]) ⟨[some (0, .str T), sg], sto⟩ = .ret 0 (.bl false) sto)
  | [], sg => ⟨fun _ => ⟨sg, rfl⟩, fun h => absurd rfl h⟩
  | c :: t, sg => by
    have ha : assign (.name 1) 0 (.str [c]) (⟨[some (0, .str T), sg], sto⟩ : S) = some ⟨[some (0, .str T), some (0, .str [c])], sto⟩ := by simp [assign]
    obtain ⟨q1, q2⟩ := loop2 (T := T) t (some (0, .str [c]))
    by_cases hc : lt c = true
    · have hs : evalSs C W bd2 ⟨[some (0, .str T), some (0, .str [c])], sto⟩ = .next ⟨[some (0, .str T), some (0, .str [c])], sto⟩ := by
        simp [bd2, b2, nth, forB, evalSs, evalS, evalT, evalE, evalEs, Out.bind, Out.fl, EV.d, EV.free, EV.fit, BT.fit, lift, liftB, cmpop, truth, assign, optFl, Fl.call, isD_nn, isD_bb, isN, scal_if, LIM, inLt, hc]
      have hf : forL (fun d s2 => match assign (.name 1) 0 d s2 with
        | some s3 => evalSs C W bd2 s3
        | none => .err) ((c :: t).map fun c => .str [c]) (⟨[some (0, .str T), sg], sto⟩ : S) = forL (fun d s2 => match assign (.name 1) 0 d s2 with
        | some s3 => evalSs C W bd2 s3
        | none => .err) (t.map fun c => .str [c]) ⟨[some (0, .str T), some (0, .str [c])], sto⟩ := by
        rw [List.map_cons, forL_next (by simp only [ha]; exact hs)]
      rw [hf]
      simp only [List.all_cons, hc, Bool.true_and]
      exact ⟨q1, q2⟩
    · have hs : evalSs C W bd2 ⟨[some (0, .str T), some (0, .str [c])], sto⟩ = .ret 0 (.bl false) sto := by
        simp [bd2, b2, nth, forB, evalSs, evalS, evalT, evalE, evalEs, Out.bind, Out.fl, EV.d, EV.free, EV.fit, BT.fit, lift, liftB, cmpop, truth, assign, optFl, Fl.call, isD_nn, isD_bb, isN, scal_if, LIM, inLt, hc]
      refine ⟨fun h => ?_, fun _ => ?_⟩
      · simp only [List.all_cons, Bool.and_eq_true] at h
        exact absurd h.1 hc
      · rw [List.map_cons, forL_ret (by simp only [ha]; exact hs)]
theorem name_ok {t : Tkn} (ht : t.length ≤ 1000000) : callF Tbl W (n + 1) 2 [.str t] sto = .ok 0 (.bl ((decide (1 ≤ t.length) && decide (t.length ≤ 6)) && t.all lt)) sto := by
  rw [callF_eq (fd := ⟨1, 2, b2⟩) rfl rfl (by decide)]
  have hb : b2 = .cons (nth b2 0) (.cons (nth b2 1) .nil) := rfl
  have hf : nth b2 0 = .for (.name 1) (.val (.var 0)) bd2 := rfl
  have hi : evalI (callF Tbl W n) (.val (.var 0)) (⟨[some (0, .str t), none], sto⟩ : S) = .ok (t.map fun c => .str [c]) ⟨[some (0, .str t), none], sto⟩ := by simp [evalI, evalSs, evalS, evalT, evalE, evalEs, Out.bind, Out.fl, EV.d, EV.free, EV.fit, BT.fit, lift, liftB, cmpop, truth, assign, optFl, Fl.call, isD_nn, isD_bb, isN, scal_if, LIM]
  show (evalSs (callF Tbl W n) W b2 ⟨[some (0, .str t), none], sto⟩).call = _
  obtain ⟨q1, q2⟩ := loop2 (W := W) (C := callF Tbl W n) (sto := sto) (T := t) t none
  have hl := lens ht
  by_cases h : t.all lt = true
  · obtain ⟨y, e⟩ := q1 h
    rw [hb, hf, ev_next (ev_for hi e), h]
    by_cases c1 : (1 : Int) ≤ t.length
    · have c1' : 1 ≤ t.length := by omega
      have e6 : decide ((t.length : Int) ≤ 6) = decide (t.length ≤ 6) := by congr 1; simp; omega
      simp [b2, nth, evalSs, evalS, evalT, evalE, evalEs, Out.bind, Out.fl, EV.d, EV.free, EV.fit, BT.fit, lift, liftB, cmpop, truth, assign, optFl, Fl.call, isD_nn, isD_bb, isN, scal_if, LIM, hl, c1, c1', e6]
    · have c1' : ¬ 1 ≤ t.length := by omega
      simp [b2, nth, evalSs, evalS, evalT, evalE, evalEs, Out.bind, Out.fl, EV.d, EV.free, EV.fit, BT.fit, lift, liftB, cmpop, truth, assign, optFl, Fl.call, isD_nn, isD_bb, isN, scal_if, LIM, hl, c1, c1']
  · have e := q2 h
    rw [hb, hf, ev_ret (ev_for hi e)]
    simp only [Bool.not_eq_true] at h
    rw [h, Bool.and_false]
    rfl
/-! ### _law_words -/
def sg : List Nat := [48, 49, 50, 51, 52, 53, 54, 55, 56, 57, 97, 98, 99, 100, 101, 102, 120, 121, 122, 65, 66, 90, 95, 45, 43, 46, 58, 61]
def bd14 : CSs := forB (nth b14 3)
def bd14b : CSs := forB (nth b14 7)
theorem log8 : (Int.natAbs 8).log2 < 9000 := log_lt (k := 4) (by decide)
theorem fdiv8 (i : Int) : binop .fdiv (.int i) (.int 8) = some (.int (i / 8)) := binop_fdiv (by decide) log8
theorem loop14 {x0 : Option (Nat × D)} {rs : List Int} (h9 : rs.length = 9) {a : Int} (ha : rs[0]? = some a) : ∀ (us : List Nat) (T : Tkn) (x4 : Option (Nat × D)) (m : Nat), (∀ i ∈ us, i < 8) → T.length + us.length ≤ m → m < 1000 → ∃ (T' : Tkn) (y4 : Option (Nat × D)), T'.length ≤ m ∧ forL (fun d s2 => match assign (.name 4) 0 d s2 with
        | some s3 => evalSs C W bd14 s3
        | none => .err) (us.map fun (i : Nat) => .int (i : Int)) ⟨[x0, some (0, .str sg), some (1, il rs), some (0, .str T), x4, none, none, none, none], sto⟩ = .next ⟨[x0, some (0, .str sg), some (1, il rs), some (0, .str T'), y4, none, none, none, none], sto⟩
  | [], T, x4, m, _, h, _ => ⟨T, x4, by simpa using h, rfl⟩
  | i :: us, T, x4, m, hi, h, hm => by
    simp only [List.length_cons] at h
    have hi8 := hi i (by simp)
    obtain ⟨b, hb⟩ : ∃ b, rs[1 + i]? = some b := ⟨rs[1 + i]'(by omega), by simp⟩
    have hb := idx_ints hb
    have e : ((1 + i : Nat) : Int) = 1 + (i : Int) := by omega
    rw [e] at hb
    have ha' : idxD (il rs) (.int 0) = some (.int a) := idx_ints ha
    have hd : 0 ≤ (a / 8) % 4 ∧ (a / 8) % 4 < 4 := ⟨Int.emod_nonneg _ (by decide), Int.emod_lt_of_pos _ (by decide)⟩
    obtain ⟨q, hq, hp⟩ := pick (xs := [28, 10, 16, 26].map .int) (j := (a / 8) % 4) hd.1 hd.2
    obtain ⟨k, hk, rfl⟩ := List.mem_map.mp hq
    have hw : ∀ t ∈ ([28, 10, 16, 26] : List Int), 0 < t ∧ t ≤ 28 := by decide
    obtain ⟨k1, k2⟩ := hw k hk
    simp only [List.map] at hp
    have hm1 : binop .mod (.int b) (.int k) = some (.int (b % k)) := binop_mod k1
    have hm2 := Int.emod_nonneg b (show k ≠ 0 by omega)
    have hm3 := Int.emod_lt_of_pos b k1
    obtain ⟨c, _, hc⟩ := pickS (xs := sg) (j := b % k) hm2 (show b % k < 28 by omega) (by decide)
    have a1 := adds (a := T) (b := [c]) (by simp; omega)
    have hs : (match assign (.name 4) 0 (.int (i : Int)) (⟨[x0, some (0, .str sg), some (1, il rs), some (0, .str T), x4, none, none, none, none], sto⟩ : S) with
        | some s3 => evalSs C W bd14 s3
        | none => .err) = .next ⟨[x0, some (0, .str sg), some (1, il rs), some (0, .str (T ++ [c])), some (0, .int (i : Int)), none, none, none, none], sto⟩ := by
      have biI : ∀ z : Int, biD .int [.int z] = some (.int z) := fun _ => rfl
      simp [bd14, b14, nth, forB, evalSs, evalS, evalT, evalE, evalEs, Out.bind, Out.fl, EV.d, EV.free, EV.fit, BT.fit, lift, liftB, cmpop, truth, assign, optFl, Fl.call, isD_nn, isD_bb, isN, scal_if, LIM, ha', hb, hp, hc, a1, hm1, fdiv8, binop_mod, binop_add, biI]
    obtain ⟨T2, y4, l2, e2⟩ := loop14 (x0 := x0) h9 ha us (T ++ [c]) (some (0, .int (i : Int))) m (fun j mj => hi j (by simp [mj])) (by simp; omega) hm
    exact ⟨T2, y4, l2, by rw [List.map_cons, forL_next hs]; exact e2⟩
theorem loop14b {x0 x1 x2 x3 x4 x5 x8 : Option (Nat × D)} : ∀ (t : Tkn) (b : Bool) (x7 : Option (Nat × D)), ∃ y7, forL (fun d s2 => match assign (.name 7) 0 d s2 with
        | some s3 => evalSs C W bd14b s3
        | none => .err) (t.map fun c => .str [c]) ⟨[x0, x1, x2, x3, x4, x5, some (0, .bl b), x7, x8], sto⟩ = .next ⟨[x0, x1, x2, x3, x4, x5, some (0, .bl (b && t.all lt)), y7, x8], sto⟩
  | [], b, x7 => ⟨x7, by simp [forL_nil]⟩
  | c :: t, b, x7 => by
    have ha : (match assign (.name 7) 0 (.str [c]) (⟨[x0, x1, x2, x3, x4, x5, some (0, .bl b), x7, x8], sto⟩ : S) with
        | some s3 => evalSs C W bd14b s3
        | none => .err) = .next ⟨[x0, x1, x2, x3, x4, x5, some (0, .bl (b && lt c)), some (0, .str [c]), x8], sto⟩ := by
      cases hc : lt c <;> simp [bd14b, b14, nth, forB, evalSs, evalS, evalT, evalE, evalEs, Out.bind, Out.fl, EV.d, EV.free, EV.fit, BT.fit, lift, liftB, cmpop, truth, assign, optFl, Fl.call, isD_nn, isD_bb, isN, scal_if, LIM, inLt, hc]
    obtain ⟨y, e⟩ := loop14b (x0 := x0) (x1 := x1) (x2 := x2) (x3 := x3) (x4 := x4) (x5 := x5) (x8 := x8) t (b && lt c) (some (0, .str [c]))
    exact ⟨y, by rw [List.map_cons, forL_next ha, e, List.all_cons, Bool.and_assoc]⟩
theorem words_ok {ns : List Int} (hn : ns.length ≤ 63) : callF Tbl W (n + 2) 14 [il ns] sto = .ok 0 (.bl true) sto := by
  rw [callF_eq (fd := ⟨1, 9, b14⟩) rfl rfl (by decide)]
  obtain ⟨rs, l0, h0⟩ := row7 (W := W) (n := n) (sto := sto) (ns := ns) (k := 13) (c := 9) hn (by decide)
  have h0 : callF Tbl W (n + 1) 7 [il ns, .int 13, .int 9] sto = .ok 1 (il rs) sto := h0
  obtain ⟨a, ha⟩ : ∃ a, rs[0]? = some a := ⟨rs[0]'(by omega), by simp [l0]⟩
  have i0 : idxD (il rs) (.int 0) = some (.int a) := idx_ints ha
  have hr : 0 ≤ a % 8 ∧ a % 8 < 8 := ⟨Int.emod_nonneg _ (by decide), Int.emod_lt_of_pos _ (by decide)⟩
  obtain ⟨T, y4, q1, q2⟩ := loop14 (W := W) (C := callF Tbl W (n + 1)) (sto := sto) (x0 := some (0, il ns)) l0 ha (List.range (1 + a % 8).toNat) [] none 8 (fun i mi => by have := List.mem_range.mp mi; omega) (by simp; omega) (by decide)
  have hb : b14 = .cons (nth b14 0) (.cons (nth b14 1) (.cons (nth b14 2) (.cons (nth b14 3) (.cons (nth b14 4) (.cons (nth b14 5) (.cons (nth b14 6) (.cons (nth b14 7) (.cons (nth b14 8) (.cons (nth b14 9) .nil))))))))) := rfl
  have hf : nth b14 3 = .for (.name 4) (.range1 (.bin .add (.int 1) (.bin .mod (.bi .int (.cons (.idx (.bor 2) (.int 0)) .nil)) (.int 8)))) bd14 := rfl
  have hf2 : nth b14 7 = .for (.name 7) (.val (.var 3)) bd14b := rfl
  have biI : ∀ z : Int, biD .int [.int z] = some (.int z) := fun _ => rfl
  have hi : evalI (callF Tbl W (n + 1)) (.range1 (.bin .add (.int 1) (.bin .mod (.bi .int (.cons (.idx (.bor 2) (.int 0)) .nil)) (.int 8)))) (⟨[some (0, il ns), some (0, .str sg), some (1, il rs), some (0, .str []), none, none, none, none, none], sto⟩ : S) = .ok ((List.range (1 + a % 8).toNat).map fun (i : Nat) => .int (i : Int)) ⟨[some (0, il ns), some (0, .str sg), some (1, il rs), some (0, .str []), none, none, none, none, none], sto⟩ := by
    refine evalI_range1 (x := .own 0 (.int (1 + a % 8))) ?_ rfl (by omega) (by omega)
    simp [evalSs, evalS, evalT, evalE, evalEs, Out.bind, Out.fl, EV.d, EV.free, EV.fit, BT.fit, lift, liftB, cmpop, truth, assign, optFl, Fl.call, isD_nn, isD_bb, isN, scal_if, LIM, i0, binop_mod, binop_add, biI]
  have n1 : callF Tbl W (n + 1) 1 [.str T] sto = .ok 0 (.int (numIn T)) sto := num_ok (by omega)
  have n13 : callF Tbl W (n + 1) 13 [.str T] sto = .ok 0 (.int (numIn T)) sto := num13_ok (by omega)
  have n8 : callF Tbl W (n + 1) 8 [.int (numIn T)] sto = .ok 0 (.bl true) sto := isint_ok _
  have n2 := name_ok (W := W) (n := n) (sto := sto) (t := T) (by omega)
  have hl := lens (t := T) (by omega)
  have g6 : evalS (callF Tbl W (n + 1)) W (nth b14 6) ⟨[some (0, il ns), some (0, .str sg), some (1, il rs), some (0, .str T), y4, some (0, .int (numIn T)), none, none, none], sto⟩ = .next ⟨[some (0, il ns), some (0, .str sg), some (1, il rs), some (0, .str T), y4, some (0, .int (numIn T)), some (0, .bl (decide (1 ≤ T.length) && decide (T.length ≤ 6))), none, none], sto⟩ := by
    by_cases c1 : (1 : Int) ≤ T.length
    · have c1' : 1 ≤ T.length := by omega
      have e6 : decide ((T.length : Int) ≤ 6) = decide (T.length ≤ 6) := by congr 1; simp; omega
      simp [b14, nth, evalSs, evalS, evalT, evalE, evalEs, Out.bind, Out.fl, EV.d, EV.free, EV.fit, BT.fit, lift, liftB, cmpop, truth, assign, optFl, Fl.call, isD_nn, isD_bb, isN, scal_if, LIM, hl, c1, c1', e6]
    · have c1' : ¬ 1 ≤ T.length := by omega
      simp [b14, nth, evalSs, evalS, evalT, evalE, evalEs, Out.bind, Out.fl, EV.d, EV.free, EV.fit, BT.fit, lift, liftB, cmpop, truth, assign, optFl, Fl.call, isD_nn, isD_bb, isN, scal_if, LIM, hl, c1, c1']
  obtain ⟨y7, g7⟩ := loop14b (W := W) (C := callF Tbl W (n + 1)) (sto := sto) (x0 := some (0, il ns)) (x1 := some (0, .str sg)) (x2 := some (1, il rs)) (x3 := some (0, .str T)) (x4 := y4) (x5 := some (0, .int (numIn T))) (x8 := none) T (decide (1 ≤ T.length) && decide (T.length ≤ 6)) none
  have hi2 : evalI (callF Tbl W (n + 1)) (.val (.var 3)) (⟨[some (0, il ns), some (0, .str sg), some (1, il rs), some (0, .str T), y4, some (0, .int (numIn T)), some (0, .bl (decide (1 ≤ T.length) && decide (T.length ≤ 6))), none, none], sto⟩ : S) = .ok (T.map fun c => .str [c]) ⟨[some (0, il ns), some (0, .str sg), some (1, il rs), some (0, .str T), y4, some (0, .int (numIn T)), some (0, .bl (decide (1 ≤ T.length) && decide (T.length ≤ 6))), none, none], sto⟩ := by simp [evalI, evalSs, evalS, evalT, evalE, evalEs, Out.bind, Out.fl, EV.d, EV.free, EV.fit, BT.fit, lift, liftB, cmpop, truth, assign, optFl, Fl.call, isD_nn, isD_bb, isN, scal_if, LIM]
  show (evalSs (callF Tbl W (n + 1)) W b14 ⟨[some (0, il ns), none, none, none, none, none, none, none, none], sto⟩).call = _
  rw [hb, ev_next (s' := ⟨[some (0, il ns), some (0, .str sg), none, none, none, none, none, none, none], sto⟩) (by simp [b14, nth, evalSs, evalS, evalT, evalE, evalEs, Out.bind, Out.fl, EV.d, EV.free, EV.fit, BT.fit, lift, liftB, cmpop, truth, assign, optFl, Fl.call, isD_nn, isD_bb, isN, scal_if, LIM, sg]),
    ev_next (s' := ⟨[some (0, il ns), some (0, .str sg), some (1, il rs), none, none, none, none, none, none], sto⟩) (by simp [b14, nth, evalSs, evalS, evalT, evalE, evalEs, Out.bind, Out.fl, EV.d, EV.free, EV.fit, BT.fit, lift, liftB, cmpop, truth, assign, optFl, Fl.call, isD_nn, isD_bb, isN, scal_if, LIM, h0]),
    ev_next (s' := ⟨[some (0, il ns), some (0, .str sg), some (1, il rs), some (0, .str []), none, none, none, none, none], sto⟩) (by simp [b14, nth, evalSs, evalS, evalT, evalE, evalEs, Out.bind, Out.fl, EV.d, EV.free, EV.fit, BT.fit, lift, liftB, cmpop, truth, assign, optFl, Fl.call, isD_nn, isD_bb, isN, scal_if, LIM]),
    hf, ev_next (ev_for hi q2),
    ev_next (s' := ⟨[some (0, il ns), some (0, .str sg), some (1, il rs), some (0, .str T), y4, some (0, .int (numIn T)), none, none, none], sto⟩) (by simp [b14, nth, evalSs, evalS, evalT, evalE, evalEs, Out.bind, Out.fl, EV.d, EV.free, EV.fit, BT.fit, lift, liftB, cmpop, truth, assign, optFl, Fl.call, isD_nn, isD_bb, isN, scal_if, LIM, n1]),
    ev_next (s' := ⟨[some (0, il ns), some (0, .str sg), some (1, il rs), some (0, .str T), y4, some (0, .int (numIn T)), none, none, none], sto⟩) (by simp [b14, nth, evalSs, evalS, evalT, evalE, evalEs, Out.bind, Out.fl, EV.d, EV.free, EV.fit, BT.fit, lift, liftB, cmpop, truth, assign, optFl, Fl.call, isD_nn, isD_bb, isN, scal_if, LIM, n8, n13, eqi]),
    ev_next g6, hf2, ev_next (ev_for hi2 g7)]
  generalize ((decide (1 ≤ T.length) && decide (T.length ≤ 6)) && T.all lt) = q at *
  cases q <;> simp [b14, nth, evalSs, evalS, evalT, evalE, evalEs, Out.bind, Out.fl, EV.d, EV.free, EV.fit, BT.fit, lift, liftB, cmpop, truth, assign, optFl, Fl.call, isD_nn, isD_bb, isN, scal_if, LIM, n2]
end K89
end

section
set_option pp.maxSteps 1500
namespace K89
open BT
variable {W n : Nat} {sto : Sto} {C : Nat → List D → Sto → CR}
/-! ### _law_lines -/
theorem strs_plain : ∀ ts : List Tkn, plainL (ts.map .str) = true ∧ depL (ts.map .str) = 0 ∧ eqL (ts.map .str) (ts.map .str) = true
  | [] => ⟨rfl, rfl, rfl⟩
  | t :: ts => by
    obtain ⟨h1, h2, h3⟩ := strs_plain ts
    simp [plainL, plain, depL, dep, eqL, eqB, h1, h2, h3]
theorem eq_tl (ts : List Tkn) : eqD (tl ts) (tl ts) = some true := by
  obtain ⟨h1, h2, h3⟩ := strs_plain ts
  simp [eqD, okD, plain, dep, eqB, h1, h2, h3]
theorem lines_ok {ns : List Int} (hn : ns.length ≤ 63) : callF Tbl W (n + 3) 12 [il ns] [] = .ok 0 (.bl true) [] := by
  rw [callF_eq (fd := ⟨1, 7, b12⟩) rfl rfl (by decide)]
  obtain ⟨L, hL, h11⟩ := line_ok (W := W) (n := n) (sto := []) hn
  obtain ⟨r0, l0, h0⟩ := row7 (W := W) (n := n + 1) (sto := []) (ns := ns) (k := 12) (c := 1) hn (by decide)
  obtain ⟨r, rfl⟩ := List.length_eq_one_iff.mp l0
  have h0 : callF Tbl W (n + 2) 7 [il ns, .int 12, .int 1] [] = .ok 1 (.lst [.int r]) [] := h0
  have h9 := scan_ok (W := W) (n := n + 1) (sto := []) (L := L) (by omega)
  have hr : 0 ≤ r % 50 ∧ r % 50 < 50 := ⟨Int.emod_nonneg _ (by decide), Int.emod_lt_of_pos _ (by decide)⟩
  have hT : callF Tbl W (n + 2) 0 [.str L, .int (1 + r % 50)] [] = tokR (1 + r % 50) [] (scan (L.length + 1) L []) := by
    obtain ⟨m, hm⟩ := Int.eq_ofNat_of_zero_le (show 0 ≤ 1 + r % 50 by omega)
    rw [hm]
    exact tok_ok (log_small (by omega)) (by omega)
  have hb : b12 = .cons (nth b12 0) (.cons (nth b12 1) (.cons (nth b12 2) (.cons (nth b12 3) (.cons (nth b12 4) .nil)))) := rfl
  show (evalSs (callF Tbl W (n + 2)) W b12 ⟨[some (0, il ns), none, none, none, none, none, none], []⟩).call = _
  have e1 : evalS (callF Tbl W (n + 2)) W (nth b12 0) ⟨[some (0, il ns), none, none, none, none, none, none], []⟩ = .next ⟨[some (0, il ns), some (0, .str L), none, none, none, none, none], []⟩ := by simp [b12, nth, evalSs, evalS, evalT, evalE, evalEs, Out.bind, Out.fl, EV.d, EV.free, EV.fit, BT.fit, lift, liftB, cmpop, truth, assign, optFl, Fl.call, isD_nn, isD_bb, isN, scal_if, LIM, h11]
  have e2 : evalS (callF Tbl W (n + 2)) W (nth b12 1) ⟨[some (0, il ns), some (0, .str L), none, none, none, none, none], []⟩ = .next ⟨[some (0, il ns), some (0, .str L), some (0, .int (1 + r % 50)), none, none, none, none], []⟩ := by simp [b12, nth, evalSs, evalS, evalT, evalE, evalEs, Out.bind, Out.fl, EV.d, EV.free, EV.fit, BT.fit, lift, liftB, cmpop, truth, assign, optFl, Fl.call, isD_nn, isD_bb, isN, scal_if, LIM, h0, idx_l0, binop_mod, binop_add]
  rw [hb, ev_next e1, ev_next e2]
  by_cases hq : (scan (L.length + 1) L []).2 = 0
  · unfold tokR at hT
    rw [hq, if_pos rfl] at h9
    rw [if_pos hq] at hT
    simp [b12, nth, evalSs, evalS, evalT, evalE, evalEs, Out.bind, Out.fl, EV.d, EV.free, EV.fit, BT.fit, lift, liftB, cmpop, truth, assign, optFl, Fl.call, isD_nn, isD_bb, isN, scal_if, LIM, h9, hT, eqi, eq_tl, isiD, Fl.outX]
  · unfold tokR at hT
    rw [if_neg hq] at h9 hT
    have hg : 0 < (scan (L.length + 1) L []).2 := by omega
    simp [b12, nth, evalSs, evalS, evalT, evalE, evalEs, Out.bind, Out.fl, EV.d, EV.free, EV.fit, BT.fit, lift, liftB, cmpop, truth, assign, optFl, Fl.call, isD_nn, isD_bb, isN, scal_if, LIM, h9, hT, eqi, Fl.outX, hg, noC, S.noX, noX, noXS, List.lookup, scal]
/-! ### _law_value -/
theorem idx_last2 (xs : List D) (a b : D) : idxD (.lst (xs ++ [a, b])) (.int (-1)) = some b ∧ idxD (.lst (xs ++ [a, b])) (.int (-2)) = some a := by
  constructor
  · have := idx_lastD (xs ++ [a]) b
    simpa using this
  · have e : ixN (xs ++ [a, b]).length (-2) = some xs.length := by
      simp only [ixN, List.length_append, List.length_cons, List.length_nil]
      rw [if_neg (by decide), if_pos (by omega)]
      congr 1
      omega
    simp only [idxD]
    rw [e]
    simp
theorem cut_2 (xs : List D) (a b : D) : cutD (xs ++ [a, b]) none (some (-2)) = xs := by
  have e : sx (xs ++ [a, b]).length (xs ++ [a, b]).length (some (-2)) = xs.length := by
    simp only [sx, List.length_append, List.length_cons, List.length_nil]
    rw [if_pos (by decide)]
    omega
  simp only [cutD]
  rw [e]
  simp [sx]
/-- a value with its depth -/
def vp (v : Vl) : D := .tup [v.d, .int (v.dp : Nat)]
def bd15 : CSs := forB (nth b15 3)
abbrev t15 (x0 x1 x2 : Option (Nat × D)) (vs : List Vl) (g : Bool) (x5 x6 x7 x8 : Option (Nat × D)) (sto : Sto) : S := ⟨[x0, x1, x2, some (1, .lst (vs.map vp)), some (0, .bl g), x5, x6, x7, x8], sto⟩
theorem ev_ift {c : CE} {a b : CSs} {s s1 : S} (h : evalT C c s = .ok true s1) : evalS C W (.ifs c a b) s = evalSs C W a s1 := by
  rw [evalS, h]
  rfl
theorem ev_iff {c : CE} {a b : CSs} {s s1 : S} (h : evalT C c s = .ok false s1) : evalS C W (.ifs c a b) s = evalSs C W b s1 := by
  rw [evalS, h]
  rfl
theorem ev_last {a : CS} {s s' : S} (h : evalS C W a s = .next s') : evalSs C W (.cons a .nil) s = .next s' := by
  rw [ev_next h]
  rfl
def if15 : CS := nth bd15 1
def cd15 : CE := match if15 with | .ifs c _ _ => c | _ => .non
def th15 : CSs := match if15 with | .ifs _ a _ => a | _ => .nil
def el15 : CSs := match if15 with | .ifs _ _ b => b | _ => .nil
theorem biI (z : Int) : biD .int [.int z] = some (.int z) := rfl
theorem else15 {x0 x1 x2 x5 x7 x8 : Option (Nat × D)} {vs : List Vl} {g : Bool} {a : Int} {m : Nat} (hm : m < 1000) (hl : vs.length < 1000) :
    ∃ (v : Vl) (g' : Bool) (y8 : Option (Nat × D)), evalSs C W el15 (t15 x0 x1 x2 vs g x5 (some (1, .lst [.int a, .int m])) x7 x8 sto) = .next (t15 x0 x1 x2 (vs ++ [v]) g' x5 (some (1, .lst [.int a, .int m])) x7 y8 sto) ∧ v.ok 1100 ∧ v.dp ≤ 5 := by
  have i0 : idxD (.lst [.int a, .int m]) (.int 0) = some (.int a) := rfl
  have i1 : idxD (.lst [.int a, .int m]) (.int 1) = some (.int m) := rfl
  have hl' : vs.length < 1000000 := by omega
  by_cases c : a % 11 = 0
  · refine ⟨.num (1000 + m % 100), true, some (0, .int (1000 + m % 100 : Nat)), ?_, ?_, by simp [Vl.dp]⟩
    · have e : ((1000 + m % 100 : Nat) : Int) = 1000 + (m : Int) % 100 := by omega
      simp only [e, vp, Vl.d, List.map_append, List.map_cons, List.map_nil]
      simp [el15, if15, bd15, b15, nth, forB, evalSs, evalS, evalT, evalE, evalEs, Out.bind, Out.fl, EV.d, EV.free, EV.fit, BT.fit, lift, liftB, cmpop, truth, assign, optFl, Fl.call, isD_nn, isD_bb, isN, scal_if, LIM, i0, i1, biI, binop_mod, binop_add, eqi, c, scal, hl', Vl.dp, e]
      simp [vp, Vl.d, Vl.dp]
    · show 1000 + m % 100 < 1100
      omega
  · refine ⟨.num m, g, some (0, .int (m : Nat)), ?_, ?_, by simp [Vl.dp]⟩
    · simp [el15, if15, bd15, b15, nth, forB, evalSs, evalS, evalT, evalE, evalEs, Out.bind, Out.fl, EV.d, EV.free, EV.fit, BT.fit, lift, liftB, cmpop, truth, assign, optFl, Fl.call, isD_nn, isD_bb, isN, scal_if, LIM, i0, i1, biI, binop_mod, binop_add, eqi, c, scal, hl', vp, Vl.d, Vl.dp]
    · show m < 1100
      omega
theorem max_d (i j : Nat) : biD .max2 [.int (j : Int), .int (i : Int)] = some (.int ((max i j : Nat) : Int)) := by
  simp only [biD]
  congr 2
  split <;> omega
theorem then15 {x0 x1 x2 x5 x6 x7 x8 : Option (Nat × D)} {g : Option (Nat × D)} {xs : List D} {p q : D} {i j M : Nat} (hM : biD .max2 [.int (j : Int), .int (i : Int)] = some (.int (M : Int))) (hl : xs.length < 1000) :
    ∃ (y7 : Option (Nat × D)), evalSs C W th15 ⟨[x0, x1, x2, some (1, .lst (xs ++ [.tup [p, .int i], .tup [q, .int j]])), g, x5, x6, x7, x8], sto⟩ = .next ⟨[x0, x1, x2, some (1, .lst (xs ++ [.tup [.tup [p, q], .int (1 + (M : Int))]])), g, x5, x6, y7, x8], sto⟩ := by
  obtain ⟨h1, h2⟩ := idx_last2 xs (.tup [p, .int i]) (.tup [q, .int j])
  have h3 := cut_2 xs (.tup [p, .int i]) (.tup [q, .int j])
  have hl' : xs.length + 1 ≤ 1000000 := by omega
  refine ⟨some (0, .tup [.tup [p, q], .int (1 + (M : Int))]), ?_⟩
  simp [th15, if15, bd15, b15, nth, forB, evalSs, evalS, evalT, evalE, evalEs, Out.bind, Out.fl, EV.d, EV.free, EV.fit, BT.fit, lift, liftB, cmpop, truth, assign, optFl, Fl.call, isD_nn, isD_bb, isN, scal_if, LIM, evalO, h1, h2, h3, idx_p0, idx_p1, scal_if, hM, binop_add, scal, EV.sees, hl']
theorem snoc2 {α : Type} {l : List α} (h : 1 < l.length) : ∃ xs a b, l = xs ++ [a, b] := by
  have h0 : l ≠ [] := by intro e; subst e; simp at h
  have e1 := List.dropLast_concat_getLast h0
  have h1 : l.dropLast ≠ [] := by
    intro e
    have := congrArg List.length e
    simp at this; omega
  have e2 := List.dropLast_concat_getLast h1
  refine ⟨l.dropLast.dropLast, l.dropLast.getLast h1, l.getLast h0, ?_⟩
  rw [show [l.dropLast.getLast h1, l.getLast h0] = [l.dropLast.getLast h1] ++ [l.getLast h0] from rfl, ← List.append_assoc, e2, e1]
theorem turn15 {ns : List Int} {k i : Nat} {x2 x5 x6 x7 x8 : Option (Nat × D)} {vs : List Vl} {g : Bool} (hn : ns.length ≤ 63) (hv : ∀ v ∈ vs, v.ok 1100 ∧ v.dp ≤ 5) (hl : vs.length < 1000) :
    ∃ (vs' : List Vl) (g' : Bool) (y6 y7 y8 : Option (Nat × D)), evalSs (callF Tbl W (n + 1)) W bd15 (t15 (some (0, il ns)) (some (0, .int k)) x2 vs g (some (0, .int (i : Int))) x6 x7 x8 sto) = .next (t15 (some (0, il ns)) (some (0, .int k)) x2 vs' g' (some (0, .int (i : Int))) y6 y7 y8 sto) ∧ (∀ v ∈ vs', v.ok 1100 ∧ v.dp ≤ 5) ∧ vs' ≠ [] ∧ vs'.length ≤ vs.length + 1 := by
  obtain ⟨rs, l0, r0, h0⟩ := row_ok (T := Tbl) (f := 7) (W := W) (n := n) (sto := sto) (ns := ns) (k := k + 1 + i) (c := 2) rfl hn (by decide)
  obtain ⟨a, b, rfl⟩ : ∃ a b, rs = [a, b] := by
    match rs, l0 with
    | [a, b], _ => exact ⟨a, b, rfl⟩
  obtain ⟨q1, q2⟩ := r0 b (by simp)
  obtain ⟨m, rfl⟩ := Int.eq_ofNat_of_zero_le q1
  have h0 : callF Tbl W (n + 1) 7 [il ns, .int ((k : Int) + 1 + (i : Int)), .int 2] sto = .ok 1 (.lst [.int a, .int m]) sto := by
    have e : ((k + 1 + i : Nat) : Int) = (k : Int) + 1 + (i : Int) := by omega
    rw [e] at h0; exact h0
  have i0 : idxD (.lst [.int a, .int m]) (.int 0) = some (.int a) := rfl
  have hb : bd15 = .cons (nth bd15 0) (.cons (.ifs cd15 th15 el15) .nil) := rfl
  have e0 : evalS (callF Tbl W (n + 1)) W (nth bd15 0) (t15 (some (0, il ns)) (some (0, .int k)) x2 vs g (some (0, .int (i : Int))) x6 x7 x8 sto) = .next (t15 (some (0, il ns)) (some (0, .int k)) x2 vs g (some (0, .int (i : Int))) (some (1, .lst [.int a, .int m])) x7 x8 sto) := by
    simp [bd15, b15, nth, forB, evalSs, evalS, evalT, evalE, evalEs, Out.bind, Out.fl, EV.d, EV.free, EV.fit, BT.fit, lift, liftB, cmpop, truth, assign, optFl, Fl.call, isD_nn, isD_bb, isN, scal_if, LIM, h0, binop_add]
  have hel : (evalT (callF Tbl W (n + 1)) cd15 (t15 (some (0, il ns)) (some (0, .int k)) x2 vs g (some (0, .int (i : Int))) (some (1, .lst [.int a, .int m])) x7 x8 sto) = .ok false (t15 (some (0, il ns)) (some (0, .int k)) x2 vs g (some (0, .int (i : Int))) (some (1, .lst [.int a, .int m])) x7 x8 sto)) →
      ∃ (vs' : List Vl) (g' : Bool) (y6 y7 y8 : Option (Nat × D)), evalSs (callF Tbl W (n + 1)) W bd15 (t15 (some (0, il ns)) (some (0, .int k)) x2 vs g (some (0, .int (i : Int))) x6 x7 x8 sto) = .next (t15 (some (0, il ns)) (some (0, .int k)) x2 vs' g' (some (0, .int (i : Int))) y6 y7 y8 sto) ∧ (∀ v ∈ vs', v.ok 1100 ∧ v.dp ≤ 5) ∧ vs' ≠ [] ∧ vs'.length ≤ vs.length + 1 := by
    intro hc
    obtain ⟨v, g', y8, h1, h2, h3⟩ := else15 (C := callF Tbl W (n + 1)) (W := W) (sto := sto) (x0 := some (0, il ns)) (x1 := some (0, .int k)) (x2 := x2) (x5 := some (0, .int (i : Int))) (x7 := x7) (x8 := x8) (g := g) (a := a) (m := m) (by omega) hl
    refine ⟨vs ++ [v], g', some (1, .lst [.int a, .int m]), x7, y8, ?_, ?_, by simp, by simp⟩
    · rw [hb, ev_next e0, ev_last ((ev_iff hc).trans h1)]
    · intro w hw
      rcases List.mem_append.mp hw with hw | hw
      · exact hv w hw
      · simp at hw; subst hw; exact ⟨h2, h3⟩
  by_cases c1 : 0 < a % 3
  · by_cases c2 : 1 < vs.length
    · obtain ⟨ws, p, q, rfl⟩ := snoc2 c2
      have hp := hv p (by simp)
      have hq := hv q (by simp)
      have hM := max_d p.dp q.dp
      have em : (ws ++ [p, q]).map vp = ws.map vp ++ [.tup [p.d, .int (p.dp : Nat)], .tup [q.d, .int (q.dp : Nat)]] := by simp [vp]
      obtain ⟨h1, h2⟩ := idx_last2 (ws.map vp) (.tup [p.d, .int (p.dp : Nat)]) (.tup [q.d, .int (q.dp : Nat)])
      have c2' : (1 : Int) < ((ws.map vp ++ [D.tup [p.d, .int (p.dp : Nat)], D.tup [q.d, .int (q.dp : Nat)]]).length : Nat) := by simp; omega
      have hlen := lenl (ws.map vp ++ [.tup [p.d, .int (p.dp : Nat)], .tup [q.d, .int (q.dp : Nat)]])
      generalize ((ws.map vp ++ [D.tup [p.d, .int (p.dp : Nat)], D.tup [q.d, .int (q.dp : Nat)]]).length : Int) = ln at hlen c2'
      by_cases c3 : max p.dp q.dp < 5
      · have hc : evalT (callF Tbl W (n + 1)) cd15 (t15 (some (0, il ns)) (some (0, .int k)) x2 (ws ++ [p, q]) g (some (0, .int (i : Int))) (some (1, .lst [.int a, .int m])) x7 x8 sto) = .ok true (t15 (some (0, il ns)) (some (0, .int k)) x2 (ws ++ [p, q]) g (some (0, .int (i : Int))) (some (1, .lst [.int a, .int m])) x7 x8 sto) := by
          simp only [t15, em]
          generalize max p.dp q.dp = M at *
          have c3' : (M : Int) < 5 := by omega
          simp [cd15, if15, bd15, b15, nth, forB, evalSs, evalS, evalT, evalE, evalEs, Out.bind, Out.fl, EV.d, EV.free, EV.fit, BT.fit, lift, liftB, cmpop, truth, assign, optFl, Fl.call, isD_nn, isD_bb, isN, scal_if, LIM, i0, binop_mod, c1, hlen, c2', h1, h2, idx_p1, scal, hM, c3']
        obtain ⟨y7, e7⟩ := then15 (C := callF Tbl W (n + 1)) (W := W) (sto := sto) (x0 := some (0, il ns)) (x1 := some (0, .int k)) (x2 := x2) (x5 := some (0, .int (i : Int))) (x6 := some (1, .lst [.int a, .int m])) (x7 := x7) (x8 := x8) (g := some (0, .bl g)) (xs := ws.map vp) (p := p.d) (q := q.d) hM (by simp at hl ⊢; omega)
        refine ⟨ws ++ [.pr p q], g, some (1, .lst [.int a, .int m]), y7, x8, ?_, ?_, by simp, by simp⟩
        · have e2 : (ws ++ [Vl.pr p q]).map vp = ws.map vp ++ [.tup [.tup [p.d, q.d], .int (1 + ((max p.dp q.dp : Nat) : Int))]] := by
            have : (1 + ((max p.dp q.dp : Nat) : Int)) = ((max p.dp q.dp + 1 : Nat) : Int) := by omega
            rw [this]
            simp [vp, Vl.d, Vl.dp]
          rw [hb, ev_next e0]
          refine ev_last ((ev_ift hc).trans ?_)
          simp only [t15, em, e2]
          exact e7
        · intro w hw
          rcases List.mem_append.mp hw with hw | hw
          · exact hv w (by simp [hw])
          · simp at hw; subst hw; exact ⟨⟨hp.1, hq.1⟩, by simp only [Vl.dp]; omega⟩
      · refine hel ?_
        simp only [t15, em]
        generalize max p.dp q.dp = M at *
        have c3' : ¬ (M : Int) < 5 := by omega
        simp [cd15, if15, bd15, b15, nth, forB, evalSs, evalS, evalT, evalE, evalEs, Out.bind, Out.fl, EV.d, EV.free, EV.fit, BT.fit, lift, liftB, cmpop, truth, assign, optFl, Fl.call, isD_nn, isD_bb, isN, scal_if, LIM, i0, binop_mod, c1, hlen, c2', h1, h2, idx_p1, scal, hM, c3']
    · refine hel ?_
      have hlen := lenl (vs.map vp)
      have c2' : ¬ (1 : Int) < ((vs.map vp).length : Nat) := by simp; omega
      generalize ((vs.map vp).length : Int) = ln at hlen c2'
      simp [cd15, if15, bd15, b15, nth, forB, evalSs, evalS, evalT, evalE, evalEs, Out.bind, Out.fl, EV.d, EV.free, EV.fit, BT.fit, lift, liftB, cmpop, truth, assign, optFl, Fl.call, isD_nn, isD_bb, isN, scal_if, LIM, i0, binop_mod, c1, hlen, c2']
  · refine hel ?_
    simp [cd15, if15, bd15, b15, nth, forB, evalSs, evalS, evalT, evalE, evalEs, Out.bind, Out.fl, EV.d, EV.free, EV.fit, BT.fit, lift, liftB, cmpop, truth, assign, optFl, Fl.call, isD_nn, isD_bb, isN, scal_if, LIM, i0, binop_mod, c1]
theorem loop15 {ns : List Int} {k : Nat} {x2 : Option (Nat × D)} (hn : ns.length ≤ 63) : ∀ (us : List Nat) (vs : List Vl) (g : Bool) (x5 x6 x7 x8 : Option (Nat × D)), (∀ v ∈ vs, v.ok 1100 ∧ v.dp ≤ 5) → vs.length + us.length < 1000 → us ≠ [] ∨ vs ≠ [] →
    ∃ (vs' : List Vl) (g' : Bool) (y5 y6 y7 y8 : Option (Nat × D)), forL (fun d s2 => match assign (.name 5) 0 d s2 with
        | some s3 => evalSs (callF Tbl W (n + 1)) W bd15 s3
        | none => .err) (us.map fun (i : Nat) => .int (i : Int)) (t15 (some (0, il ns)) (some (0, .int k)) x2 vs g x5 x6 x7 x8 sto) = .next (t15 (some (0, il ns)) (some (0, .int k)) x2 vs' g' y5 y6 y7 y8 sto) ∧ (∀ v ∈ vs', v.ok 1100 ∧ v.dp ≤ 5) ∧ vs' ≠ []
  | [], vs, g, x5, x6, x7, x8, hv, hl, hne => ⟨vs, g, x5, x6, x7, x8, rfl, hv, by simpa using hne⟩
  | i :: us, vs, g, x5, x6, x7, x8, hv, hl, hne => by
    simp only [List.length_cons] at hl
    have ha : assign (.name 5) 0 (.int (i : Int)) (t15 (some (0, il ns)) (some (0, .int k)) x2 vs g x5 x6 x7 x8 sto) = some (t15 (some (0, il ns)) (some (0, .int k)) x2 vs g (some (0, .int (i : Int))) x6 x7 x8 sto) := by simp [assign]
    obtain ⟨vs1, g1, y6, y7, y8, e1, hv1, hn1, hl1⟩ := turn15 (W := W) (n := n) (sto := sto) (k := k) (i := i) (x2 := x2) (x5 := x5) (x6 := x6) (x7 := x7) (x8 := x8) (g := g) hn hv (by omega)
    obtain ⟨vs2, g2, z5, z6, z7, z8, e2, hv2, hn2⟩ := loop15 (k := k) (x2 := x2) hn us vs1 g1 (some (0, .int (i : Int))) y6 y7 y8 hv1 (by omega) (.inr hn1)
    exact ⟨vs2, g2, z5, z6, z7, z8, by rw [List.map_cons, forL_next (by simp only [ha]; exact e1)]; exact e2, hv2, hn2⟩
theorem value_ok {ns : List Int} {k : Nat} (hn : ns.length ≤ 63) : ∃ (v : Vl) (good : Bool), v.ok 1100 ∧ v.dp ≤ 5 ∧ callF Tbl W (n + 2) 15 [il ns, .int k] sto = .ok 1 (.tup [v.d, .bl good]) sto := by
  rw [callF_eq (fd := ⟨2, 9, b15⟩) rfl rfl (by decide)]
  obtain ⟨r0, l0, h0⟩ := row7 (W := W) (n := n) (sto := sto) (ns := ns) (k := k) (c := 1) hn (by decide)
  obtain ⟨r, rfl⟩ := List.length_eq_one_iff.mp l0
  have h0 : callF Tbl W (n + 1) 7 [il ns, .int k, .int 1] sto = .ok 1 (.lst [.int r]) sto := h0
  have hr : 0 ≤ r % 9 ∧ r % 9 < 9 := ⟨Int.emod_nonneg _ (by decide), Int.emod_lt_of_pos _ (by decide)⟩
  obtain ⟨vs, g, y5, y6, y7, y8, q1, q2, q3⟩ := loop15 (W := W) (n := n) (sto := sto) (k := k) (x2 := some (1, .lst [.int r])) hn (List.range (1 + r % 9).toNat) [] false none none none none (fun v m => by simp at m) (by simp; omega) (.inl (by
    intro e
    have := congrArg List.length e
    simp at this; omega))
  have hb : b15 = .cons (nth b15 0) (.cons (nth b15 1) (.cons (nth b15 2) (.cons (nth b15 3) (.cons (nth b15 4) .nil)))) := rfl
  have hf : nth b15 3 = .for (.name 5) (.range1 (.bin .add (.int 1) (.bin .mod (.bi .int (.cons (.idx (.bor 2) (.int 0)) .nil)) (.int 9)))) bd15 := rfl
  have hi : evalI (callF Tbl W (n + 1)) (.range1 (.bin .add (.int 1) (.bin .mod (.bi .int (.cons (.idx (.bor 2) (.int 0)) .nil)) (.int 9)))) (t15 (some (0, il ns)) (some (0, .int k)) (some (1, .lst [.int r])) [] false none none none none sto) = .ok ((List.range (1 + r % 9).toNat).map fun (i : Nat) => .int (i : Int)) (t15 (some (0, il ns)) (some (0, .int k)) (some (1, .lst [.int r])) [] false none none none none sto) := by
    refine evalI_range1 (x := .own 0 (.int (1 + r % 9))) ?_ rfl (by omega) (by omega)
    simp [evalSs, evalS, evalT, evalE, evalEs, Out.bind, Out.fl, EV.d, EV.free, EV.fit, BT.fit, lift, liftB, cmpop, truth, assign, optFl, Fl.call, isD_nn, isD_bb, isN, scal_if, LIM, idx_l0, binop_mod, binop_add, biI]
  show ∃ (v : Vl) (good : Bool), v.ok 1100 ∧ v.dp ≤ 5 ∧ (evalSs (callF Tbl W (n + 1)) W b15 ⟨[some (0, il ns), some (0, .int k), none, none, none, none, none, none, none], sto⟩).call = _
  rw [hb, ev_next (s' := ⟨[some (0, il ns), some (0, .int k), some (1, .lst [.int r]), none, none, none, none, none, none], sto⟩) (by simp [b15, nth, evalSs, evalS, evalT, evalE, evalEs, Out.bind, Out.fl, EV.d, EV.free, EV.fit, BT.fit, lift, liftB, cmpop, truth, assign, optFl, Fl.call, isD_nn, isD_bb, isN, scal_if, LIM, h0]),
    ev_next (s' := ⟨[some (0, il ns), some (0, .int k), some (1, .lst [.int r]), some (1, .lst []), none, none, none, none, none], sto⟩) (by simp [b15, nth, evalSs, evalS, evalT, evalE, evalEs, Out.bind, Out.fl, EV.d, EV.free, EV.fit, BT.fit, lift, liftB, cmpop, truth, assign, optFl, Fl.call, isD_nn, isD_bb, isN, scal_if, LIM]),
    ev_next (s' := t15 (some (0, il ns)) (some (0, .int k)) (some (1, .lst [.int r])) [] false none none none none sto) (by simp [b15, nth, evalSs, evalS, evalT, evalE, evalEs, Out.bind, Out.fl, EV.d, EV.free, EV.fit, BT.fit, lift, liftB, cmpop, truth, assign, optFl, Fl.call, isD_nn, isD_bb, isN, scal_if, LIM]), hf, ev_next (ev_for hi q1)]
  obtain ⟨ws, v, rfl⟩ : ∃ ws v, vs = ws ++ [v] := ⟨vs.dropLast, vs.getLast q3, (List.dropLast_concat_getLast q3).symm⟩
  have hv := q2 v (by simp)
  have hx := idx_lastD (ws.map vp) (vp v)
  refine ⟨v, decide (v.dp ≤ 4) && !g, hv.1, hv.2, ?_⟩
  simp only [vp] at hx
  by_cases c : v.dp ≤ 4
  · have c' : (v.dp : Int) ≤ 4 := by omega
    simp [b15, nth, evalSs, evalS, evalT, evalE, evalEs, Out.bind, Out.fl, EV.d, EV.free, EV.fit, BT.fit, lift, liftB, cmpop, truth, assign, optFl, Fl.call, isD_nn, isD_bb, isN, scal_if, LIM, vp, hx, idx_p0, idx_p1, scal_if, scal, c, c']
  · have c' : ¬ (v.dp : Int) ≤ 4 := by omega
    simp [b15, nth, evalSs, evalS, evalT, evalE, evalEs, Out.bind, Out.fl, EV.d, EV.free, EV.fit, BT.fit, lift, liftB, cmpop, truth, assign, optFl, Fl.call, isD_nn, isD_bb, isN, scal_if, LIM, vp, hx, idx_p0, idx_p1, scal_if, scal, c, c']
end K89
end

section
set_option pp.maxSteps 1500
namespace K89
open BT
variable {W n : Nat} {C : Nat → List D → Sto → CR}
abbrev sv20 (x0 x1 x2 x3 x4 x5 x6 x7 x8 x9 x10 x11 x12 : Option (Nat × D)) : S := ⟨[x0, x1, x2, x3, x4, x5, x6, x7, x8, x9, x10, x11, x12], []⟩
theorem cut_map {α β : Type} (f : α → β) (l : List α) (a b : Option Int) : cutD (l.map f) a b = (cutD l a b).map f := by
  simp [cutD, List.map_take, List.map_drop]
theorem cut_mem {α : Type} {l : List α} {a b : Option Int} {t : α} (h : t ∈ cutD l a b) : t ∈ l := by
  simp only [cutD] at h
  exact List.mem_of_mem_drop (List.mem_of_mem_take h)
def wa : List (List Nat) := [[40], [41], [53], [48, 48, 55], [97], [49, 48, 48, 48]]
def wb : List (List Nat) := [[40], [41], [48], [45, 49], [61]]
theorem mid20 {x0 x1 x5 x6 x7 x8 x9 x10 x11 x12 : Option (Nat × D)} {ts : List Tkn} {a b c p : Int} {r : CSs} (hl : ts.length ≤ 1000) (ht : ∀ t ∈ ts, t.length ≤ 7) (hp : 0 ≤ p) :
    ∃ ts' : List Tkn, ts'.length ≤ 3000 ∧ (∀ t ∈ ts', t.length ≤ 7) ∧ evalSs C W (.cons (nth b20 6) (.cons (nth b20 7) (.cons (nth b20 8) r))) (sv20 x0 x1 (some (1, tl ts)) (some (1, .lst [.int a, .int b, .int c])) (some (0, .int p)) x5 x6 x7 x8 x9 x10 x11 x12) = evalSs C W r (sv20 x0 x1 (some (1, tl ts')) (some (1, .lst [.int a, .int b, .int c])) (some (0, .int p)) x5 x6 x7 x8 x9 x10 x11 x12) := by
  have i0 : idxD (.lst [.int a, .int b, .int c]) (.int 0) = some (.int a) := rfl
  have i2 : idxD (.lst [.int a, .int b, .int c]) (.int 2) = some (.int c) := rfl
  have hx0 := cut_len ts none (some p)
  have hx1 := cut_len ts (some (p + 1)) none
  have hx2 := cut_len ts (some p) none
  by_cases c0 : a % 6 = 0
  · refine ⟨cutD ts none (some p) ++ cutD ts (some (p + 1)) none, by simp; omega, ?_, ?_⟩
    · intro t h
      rcases List.mem_append.mp h with h | h <;> exact ht t (cut_mem h)
    · have h1 : ((cutD ts none (some p)).length + (cutD ts (some (p + 1)) none).length ≤ 1000000) = True := eq_true (by omega)
      rw [ev_next (s' := sv20 x0 x1 (some (1, tl (cutD ts none (some p) ++ cutD ts (some (p + 1)) none))) (some (1, .lst [.int a, .int b, .int c])) (some (0, .int p)) x5 x6 x7 x8 x9 x10 x11 x12) (by simp [b20, nth, evalSs, evalS, evalT, evalE, evalEs, Out.bind, Out.fl, EV.d, EV.free, EV.fit, BT.fit, lift, liftB, cmpop, truth, assign, optFl, Fl.call, isD_nn, isD_bb, isN, scal_if, LIM, evalO, i0, binop_mod, binop_add, eqi, c0, cut_map, EV.sees, h1])]
      rw [ev_next (s' := sv20 x0 x1 (some (1, tl (cutD ts none (some p) ++ cutD ts (some (p + 1)) none))) (some (1, .lst [.int a, .int b, .int c])) (some (0, .int p)) x5 x6 x7 x8 x9 x10 x11 x12) (by simp [b20, nth, evalSs, evalS, evalT, evalE, evalEs, Out.bind, Out.fl, EV.d, EV.free, EV.fit, BT.fit, lift, liftB, cmpop, truth, assign, optFl, Fl.call, isD_nn, isD_bb, isN, scal_if, LIM, i0, binop_mod, eqi, c0])]
      rw [ev_next (s' := sv20 x0 x1 (some (1, tl (cutD ts none (some p) ++ cutD ts (some (p + 1)) none))) (some (1, .lst [.int a, .int b, .int c])) (some (0, .int p)) x5 x6 x7 x8 x9 x10 x11 x12) (by simp [b20, nth, evalSs, evalS, evalT, evalE, evalEs, Out.bind, Out.fl, EV.d, EV.free, EV.fit, BT.fit, lift, liftB, cmpop, truth, assign, optFl, Fl.call, isD_nn, isD_bb, isN, scal_if, LIM, i0, binop_mod, eqi, c0])]
  · have e0 : evalS C W (nth b20 6) (sv20 x0 x1 (some (1, tl ts)) (some (1, .lst [.int a, .int b, .int c])) (some (0, .int p)) x5 x6 x7 x8 x9 x10 x11 x12) = .next (sv20 x0 x1 (some (1, tl ts)) (some (1, .lst [.int a, .int b, .int c])) (some (0, .int p)) x5 x6 x7 x8 x9 x10 x11 x12) := by simp [b20, nth, evalSs, evalS, evalT, evalE, evalEs, Out.bind, Out.fl, EV.d, EV.free, EV.fit, BT.fit, lift, liftB, cmpop, truth, assign, optFl, Fl.call, isD_nn, isD_bb, isN, scal_if, LIM, i0, binop_mod, eqi, c0]
    rw [ev_next e0]
    by_cases c1 : a % 6 = 1
    · have hd : 0 ≤ c % 6 ∧ c % 6 < 6 := ⟨Int.emod_nonneg _ (by decide), Int.emod_lt_of_pos _ (by decide)⟩
      obtain ⟨e, he, hq⟩ := pick (xs := wa.map .str) (j := c % 6) hd.1 hd.2
      obtain ⟨t, htm, rfl⟩ := List.mem_map.mp he
      have hw : ∀ t ∈ wa, t.length ≤ 7 := by decide
      have ht7 := hw t htm
      simp only [wa, List.map] at hq
      refine ⟨cutD ts none (some p) ++ [t] ++ cutD ts (some p) none, by simp; omega, ?_, ?_⟩
      · intro u h
        rcases List.mem_append.mp h with h | h
        · rcases List.mem_append.mp h with h | h
          · exact ht u (cut_mem h)
          · simp at h; subst h; exact ht7
        · exact ht u (cut_mem h)
      · have h1 : ((cutD ts none (some p)).length + 1 ≤ 1000000) = True := eq_true (by omega)
        have h2 : ((cutD ts none (some p)).length + 1 + (cutD ts (some p) none).length ≤ 1000000) = True := eq_true (by omega)
        have h3 : ((cutD ts none (some p)).length + ((cutD ts (some p) none).length + 1) ≤ 1000000) = True := eq_true (by omega)
        have h4 : ((cutD ts none (some p)).length < 1000000) = True := eq_true (by omega)
        rw [ev_next (s' := sv20 x0 x1 (some (1, tl (cutD ts none (some p) ++ [t] ++ cutD ts (some p) none))) (some (1, .lst [.int a, .int b, .int c])) (some (0, .int p)) x5 x6 x7 x8 x9 x10 x11 x12) (by simp [b20, nth, evalSs, evalS, evalT, evalE, evalEs, Out.bind, Out.fl, EV.d, EV.free, EV.fit, BT.fit, lift, liftB, cmpop, truth, assign, optFl, Fl.call, isD_nn, isD_bb, isN, scal_if, LIM, evalO, i0, i2, binop_mod, binop_add, biI, eqi, c1, cut_map, EV.sees, h1, h2, h3, h4, hq, scal]),
          ev_next (s' := sv20 x0 x1 (some (1, tl (cutD ts none (some p) ++ [t] ++ cutD ts (some p) none))) (some (1, .lst [.int a, .int b, .int c])) (some (0, .int p)) x5 x6 x7 x8 x9 x10 x11 x12) (by simp [b20, nth, evalSs, evalS, evalT, evalE, evalEs, Out.bind, Out.fl, EV.d, EV.free, EV.fit, BT.fit, lift, liftB, cmpop, truth, assign, optFl, Fl.call, isD_nn, isD_bb, isN, scal_if, LIM, i0, binop_mod, eqi, c1])]
    · have e1 : evalS C W (nth b20 7) (sv20 x0 x1 (some (1, tl ts)) (some (1, .lst [.int a, .int b, .int c])) (some (0, .int p)) x5 x6 x7 x8 x9 x10 x11 x12) = .next (sv20 x0 x1 (some (1, tl ts)) (some (1, .lst [.int a, .int b, .int c])) (some (0, .int p)) x5 x6 x7 x8 x9 x10 x11 x12) := by simp [b20, nth, evalSs, evalS, evalT, evalE, evalEs, Out.bind, Out.fl, EV.d, EV.free, EV.fit, BT.fit, lift, liftB, cmpop, truth, assign, optFl, Fl.call, isD_nn, isD_bb, isN, scal_if, LIM, i0, binop_mod, eqi, c1]
      rw [ev_next e1]
      by_cases c2 : a % 6 = 2
      · have hlen := lenl (ts.map .str)
        simp only [List.length_map] at hlen
        by_cases c3 : p < ts.length
        · have hd : 0 ≤ c % 5 ∧ c % 5 < 5 := ⟨Int.emod_nonneg _ (by decide), Int.emod_lt_of_pos _ (by decide)⟩
          obtain ⟨e, he, hq⟩ := pick (xs := wb.map .str) (j := c % 5) hd.1 hd.2
          obtain ⟨t, htm, rfl⟩ := List.mem_map.mp he
          have hw : ∀ t ∈ wb, t.length ≤ 7 := by decide
          have ht7 := hw t htm
          simp only [wb, List.map] at hq
          obtain ⟨m, rfl⟩ := Int.eq_ofNat_of_zero_le hp
          have hm : m < ts.length := by omega
          have hix := ixN_nat hm
          refine ⟨ts.set m t, by simp; omega, ?_, ?_⟩
          · intro u h
            rcases List.mem_or_eq_of_mem_set h with h | h
            · exact ht u h
            · subst h; exact ht7
          · rw [ev_next (s' := sv20 x0 x1 (some (1, tl (ts.set m t))) (some (1, .lst [.int a, .int b, .int c])) (some (0, .int (m : Nat))) x5 x6 x7 x8 x9 x10 x11 x12) (by simp [b20, nth, evalSs, evalS, evalT, evalE, evalEs, Out.bind, Out.fl, EV.d, EV.free, EV.fit, BT.fit, lift, liftB, cmpop, truth, assign, optFl, Fl.call, isD_nn, isD_bb, isN, scal_if, LIM, i0, i2, binop_mod, biI, eqi, c2, hlen, hm, hq, hix, scal, List.map_set])]
        · refine ⟨ts, by omega, ht, ?_⟩
          rw [ev_next (s' := sv20 x0 x1 (some (1, tl ts)) (some (1, .lst [.int a, .int b, .int c])) (some (0, .int p)) x5 x6 x7 x8 x9 x10 x11 x12) (by simp [b20, nth, evalSs, evalS, evalT, evalE, evalEs, Out.bind, Out.fl, EV.d, EV.free, EV.fit, BT.fit, lift, liftB, cmpop, truth, assign, optFl, Fl.call, isD_nn, isD_bb, isN, scal_if, LIM, i0, i2, binop_mod, biI, eqi, c2, hlen, c3])]
      · refine ⟨ts, by omega, ht, ?_⟩
        rw [ev_next (s' := sv20 x0 x1 (some (1, tl ts)) (some (1, .lst [.int a, .int b, .int c])) (some (0, .int p)) x5 x6 x7 x8 x9 x10 x11 x12) (by simp [b20, nth, evalSs, evalS, evalT, evalE, evalEs, Out.bind, Out.fl, EV.d, EV.free, EV.fit, BT.fit, lift, liftB, cmpop, truth, assign, optFl, Fl.call, isD_nn, isD_bb, isN, scal_if, LIM, i0, i2, binop_mod, biI, eqi, c2])]
theorem tks_sg : ∀ v : Vl, v.ok 1100 → ∀ t ∈ tks v, t.length ≤ 7
  | .num m, h, t, ht => by
    have := (str_dg (show m < 1100 from h)).2.2.2
    simp only [tks, List.mem_singleton] at ht
    subst ht; omega
  | .pr a b, h, t, ht => by
    simp only [tks, List.mem_cons, List.mem_append] at ht
    rcases ht with rfl | ht | ht | rfl | ht
    · simp
    · exact tks_sg a h.1 t ht
    · exact tks_sg b h.2 t ht
    · simp
    · simp at ht
theorem three {α : Type} {l : List α} (h : l.length = 3) : ∃ a b c, l = [a, b, c] := by
  match l, h with
  | [a, b, c], _ => exact ⟨a, b, c, rfl⟩
theorem values_core {ns : List Int} {v : Vl} {good : Bool} {a b c : Int} (v1 : v.ok 1100) (v2 : v.dp ≤ 5) (h15 : C 15 [il ns, .int 14] [] = .ok 1 (.tup [v.d, .bl good]) []) (h0 : C 7 [il ns, .int 24, .int 3] [] = .ok 1 (.lst [.int a, .int b, .int c]) [])
    (H16 : ∀ w : Vl, w.ok 1100 → w.dp ≤ 5 → C 16 [w.d] [] = .ok 0 (.str (vt w)) []) (H3 : ∀ w : Vl, w.ok 1100 → w.dp ≤ 5 → C 3 [w.d] [] = .ok 0 (.str (vt w)) [])
    (H9 : ∀ L : List Nat, L.length ≤ 300000 → C 9 [.str L] [] = .ok (if (scan (L.length + 1) L []).2 = 0 then 2 else 1) (.tup [tl (scan (L.length + 1) L []).1, .int ((scan (L.length + 1) L []).2 : Nat)]) [])
    (H19 : ∀ ts : List Tkn, ts.length ≤ 10000 → (∀ t ∈ ts, t.length ≤ 7) → ∃ L : List Nat, L.length ≤ 80000 ∧ C 19 [tl ts] [] = .ok 0 (.str L) [])
    (H6 : ∀ L : List Nat, L.length < 100000 → C 6 [.str L] [] = .ok 0 (.bl (decide (flt L = 0))) []) (H5 : ∀ L : List Nat, L.length < 100000 → C 5 [.str L] [] = rvR [] L)
    (H18 : ∀ ts : List Tkn, (∀ t ∈ ts, t.length ≤ 1000000) → ts.length < 1000000 → C 18 [tl ts] [] = .ok 0 (.int ((rd ts 0 [] none).1 : Nat)) []) (H17 : ∀ w : Vl, w.dp ≤ 5 → ∃ k, C 17 [w.d, w.d] [] = .ok k (.bl true) []) :
    (evalSs C W b20 (sv20 (some (0, il ns)) none none none none none none none none none none none none)).call = .ok 0 (.bl true) [] := by
  have vl := vt_len v 5 v1 v2
  have h9 := H9 (vt v) (by omega)
  rw [scan_vt v1] at h9
  have h9 : C 9 [.str (vt v)] [] = .ok 2 (.tup [tl (tks v), .int 0]) [] := h9
  have h16 := H16 v v1 v2
  have h3 := H3 v v1 v2
  have htl := (scan_len (scan_vt v1)).1
  have ht7 := tks_sg v v1
  have i1 : idxD (.lst [.int a, .int b, .int c]) (.int 1) = some (.int b) := rfl
  generalize tks v = ts at *
  have hlen := lenl (ts.map .str)
  simp only [List.length_map] at hlen
  have hm : binop .mod (.int b) (.int ((ts.length : Int) + 1)) = some (.int (b % ((ts.length : Int) + 1))) := binop_mod (by omega)
  have hp : 0 ≤ b % ((ts.length : Int) + 1) := Int.emod_nonneg _ (by omega)
  have hb : b20 = .cons (nth b20 0) (.cons (nth b20 1) (.cons (nth b20 2) (.cons (nth b20 3) (.cons (nth b20 4) (.cons (nth b20 5) (.cons (nth b20 6) (.cons (nth b20 7) (.cons (nth b20 8) (.cons (nth b20 9) (.cons (nth b20 10) (.cons (nth b20 11) (.cons (nth b20 12) (.cons (nth b20 13) (.cons (nth b20 14) (.cons (nth b20 15) .nil))))))))))))))) := rfl
  rw [hb, ev_next (s' := sv20 (some (0, il ns)) none none none none none none none (some (0, v.d)) (some (0, .bl good)) none none none) (by simp [b20, nth, evalSs, evalS, evalT, evalE, evalEs, Out.bind, Out.fl, EV.d, EV.free, EV.fit, BT.fit, lift, liftB, cmpop, truth, assign, optFl, Fl.call, isD_nn, isD_bb, isN, scal_if, LIM, h15]),
    ev_next (s' := sv20 (some (0, il ns)) (some (0, .str (vt v))) none none none none none none (some (0, v.d)) (some (0, .bl good)) none none none) (by simp [b20, nth, evalSs, evalS, evalT, evalE, evalEs, Out.bind, Out.fl, EV.d, EV.free, EV.fit, BT.fit, lift, liftB, cmpop, truth, assign, optFl, Fl.call, isD_nn, isD_bb, isN, scal_if, LIM, h16]),
    ev_next (s' := sv20 (some (0, il ns)) (some (0, .str (vt v))) none none none none none none (some (0, v.d)) (some (0, .bl good)) none none none) (by cases good <;> simp [b20, nth, evalSs, evalS, evalT, evalE, evalEs, Out.bind, Out.fl, EV.d, EV.free, EV.fit, BT.fit, lift, liftB, cmpop, truth, assign, optFl, Fl.call, isD_nn, isD_bb, isN, scal_if, LIM, h3, eqs]),
    ev_next (s' := sv20 (some (0, il ns)) (some (0, .str (vt v))) (some (1, tl ts)) none none none none none (some (0, v.d)) (some (0, .bl good)) none none none) (by simp [b20, nth, evalSs, evalS, evalT, evalE, evalEs, Out.bind, Out.fl, EV.d, EV.free, EV.fit, BT.fit, lift, liftB, cmpop, truth, assign, optFl, Fl.call, isD_nn, isD_bb, isN, scal_if, LIM, h9, idx_p0, scal]),
    ev_next (s' := sv20 (some (0, il ns)) (some (0, .str (vt v))) (some (1, tl ts)) (some (1, .lst [.int a, .int b, .int c])) none none none none (some (0, v.d)) (some (0, .bl good)) none none none) (by simp [b20, nth, evalSs, evalS, evalT, evalE, evalEs, Out.bind, Out.fl, EV.d, EV.free, EV.fit, BT.fit, lift, liftB, cmpop, truth, assign, optFl, Fl.call, isD_nn, isD_bb, isN, scal_if, LIM, h0]),
    ev_next (s' := sv20 (some (0, il ns)) (some (0, .str (vt v))) (some (1, tl ts)) (some (1, .lst [.int a, .int b, .int c])) (some (0, .int (b % ((ts.length : Int) + 1)))) none none none (some (0, v.d)) (some (0, .bl good)) none none none) (by simp [b20, nth, evalSs, evalS, evalT, evalE, evalEs, Out.bind, Out.fl, EV.d, EV.free, EV.fit, BT.fit, lift, liftB, cmpop, truth, assign, optFl, Fl.call, isD_nn, isD_bb, isN, scal_if, LIM, i1, biI, hlen, binop_add, hm])]
  obtain ⟨us, u1, u2, hmid⟩ := mid20 (C := C) (W := W) (x0 := some (0, il ns)) (x1 := some (0, .str (vt v))) (x5 := none) (x6 := none) (x7 := none) (x8 := some (0, v.d)) (x9 := some (0, .bl good)) (x10 := none) (x11 := none) (x12 := none) (ts := ts) (a := a) (b := b) (c := c) (p := b % ((ts.length : Int) + 1)) (r := .cons (nth b20 9) (.cons (nth b20 10) (.cons (nth b20 11) (.cons (nth b20 12) (.cons (nth b20 13) (.cons (nth b20 14) (.cons (nth b20 15) .nil))))))) (by omega) ht7 hp
  rw [hmid]
  obtain ⟨L, l1, h19⟩ := H19 us (by omega) u2
  have h9L := H9 L (by omega)
  have h6 : C 6 [.str L] [] = .ok 0 (.bl (decide (flt L = 0))) [] := H6 L (by omega)
  have h5 : C 5 [.str L] [] = rvR [] L := H5 L (by omega)
  generalize some (0, D.int (b % ((ts.length : Int) + 1))) = x4 at *
  generalize some (1, D.lst [.int a, .int b, .int c]) = x3 at *
  have e9 : evalS (C) W (nth b20 9) (sv20 (some (0, il ns)) (some (0, .str (vt v))) (some (1, tl us)) x3 x4 none none none (some (0, v.d)) (some (0, .bl good)) none none none) = .next (sv20 (some (0, il ns)) (some (0, .str (vt v))) (some (0, tl us)) x3 x4 (some (0, .str L)) none none (some (0, v.d)) (some (0, .bl good)) none none none) := by simp [b20, nth, evalSs, evalS, evalT, evalE, evalEs, Out.bind, Out.fl, EV.d, EV.free, EV.fit, BT.fit, lift, liftB, cmpop, truth, assign, optFl, Fl.call, isD_nn, isD_bb, isN, scal_if, LIM, h19]
  rw [ev_next e9]
  generalize some (0, tl us) = x2 at *
  have hmid2 : ∃ (x10 x11 : Option (Nat × D)), evalSs (C) W (.cons (nth b20 10) (.cons (nth b20 11) (.cons (nth b20 12) (.cons (nth b20 13) (.cons (nth b20 14) (.cons (nth b20 15) .nil)))))) (sv20 (some (0, il ns)) (some (0, .str (vt v))) x2 x3 x4 (some (0, .str L)) none none (some (0, v.d)) (some (0, .bl good)) none none none) = evalSs (C) W (.cons (nth b20 13) (.cons (nth b20 14) (.cons (nth b20 15) .nil))) (sv20 (some (0, il ns)) (some (0, .str (vt v))) x2 x3 x4 (some (0, .str L)) (some (0, .int (flt L : Nat))) none (some (0, v.d)) (some (0, .bl good)) x10 x11 none) := by
    by_cases hq : (scan (L.length + 1) L []).2 = 0
    · obtain ⟨s1, s2⟩ := scan_len (L := L) (ts := (scan (L.length + 1) L []).1) (Prod.ext rfl hq)
      have h18 : C 18 [tl (scan (L.length + 1) L []).1] [] = .ok 0 (.int ((rd (scan (L.length + 1) L []).1 0 [] none).1 : Nat)) [] := H18 _ (fun t m => by have := s2 t m; omega) (by omega)
      have hf : flt L = (rd (scan (L.length + 1) L []).1 0 [] none).1 := by unfold flt; rw [if_pos hq]
      rw [if_pos hq, hq] at h9L
      refine ⟨some (0, tl (scan (L.length + 1) L []).1), some (0, .int 0), ?_⟩
      rw [hf]
      rw [ev_next (s' := sv20 (some (0, il ns)) (some (0, .str (vt v))) x2 x3 x4 (some (0, .str L)) none none (some (0, v.d)) (some (0, .bl good)) (some (1, tl (scan (L.length + 1) L []).1)) (some (1, .int 0)) none) (by simp [b20, nth, evalSs, evalS, evalT, evalE, evalEs, Out.bind, Out.fl, EV.d, EV.free, EV.fit, BT.fit, lift, liftB, cmpop, truth, assign, optFl, Fl.call, isD_nn, isD_bb, isN, scal_if, LIM, h9L]),
        ev_next (s' := sv20 (some (0, il ns)) (some (0, .str (vt v))) x2 x3 x4 (some (0, .str L)) (some (0, .int 0)) none (some (0, v.d)) (some (0, .bl good)) (some (1, tl (scan (L.length + 1) L []).1)) (some (0, .int 0)) none) (by simp [b20, nth, evalSs, evalS, evalT, evalE, evalEs, Out.bind, Out.fl, EV.d, EV.free, EV.fit, BT.fit, lift, liftB, cmpop, truth, assign, optFl, Fl.call, isD_nn, isD_bb, isN, scal_if, LIM]),
        ev_next (s' := sv20 (some (0, il ns)) (some (0, .str (vt v))) x2 x3 x4 (some (0, .str L)) (some (0, .int ((rd (scan (L.length + 1) L []).1 0 [] none).1 : Nat))) none (some (0, v.d)) (some (0, .bl good)) (some (0, tl (scan (L.length + 1) L []).1)) (some (0, .int 0)) none) (by simp [b20, nth, evalSs, evalS, evalT, evalE, evalEs, Out.bind, Out.fl, EV.d, EV.free, EV.fit, BT.fit, lift, liftB, cmpop, truth, assign, optFl, Fl.call, isD_nn, isD_bb, isN, scal_if, LIM, eqi, h18])]
    · have hf : flt L = (scan (L.length + 1) L []).2 := by unfold flt; rw [if_neg hq]
      rw [if_neg hq] at h9L
      refine ⟨some (0, tl (scan (L.length + 1) L []).1), some (0, .int ((scan (L.length + 1) L []).2 : Nat)), ?_⟩
      rw [hf]
      rw [ev_next (s' := sv20 (some (0, il ns)) (some (0, .str (vt v))) x2 x3 x4 (some (0, .str L)) none none (some (0, v.d)) (some (0, .bl good)) (some (0, tl (scan (L.length + 1) L []).1)) (some (0, .int ((scan (L.length + 1) L []).2 : Nat))) none) (by simp [b20, nth, evalSs, evalS, evalT, evalE, evalEs, Out.bind, Out.fl, EV.d, EV.free, EV.fit, BT.fit, lift, liftB, cmpop, truth, assign, optFl, Fl.call, isD_nn, isD_bb, isN, scal_if, LIM, h9L]),
        ev_next (s' := sv20 (some (0, il ns)) (some (0, .str (vt v))) x2 x3 x4 (some (0, .str L)) (some (0, .int ((scan (L.length + 1) L []).2 : Nat))) none (some (0, v.d)) (some (0, .bl good)) (some (0, tl (scan (L.length + 1) L []).1)) (some (0, .int ((scan (L.length + 1) L []).2 : Nat))) none) (by simp [b20, nth, evalSs, evalS, evalT, evalE, evalEs, Out.bind, Out.fl, EV.d, EV.free, EV.fit, BT.fit, lift, liftB, cmpop, truth, assign, optFl, Fl.call, isD_nn, isD_bb, isN, scal_if, LIM]),
        ev_next (s' := sv20 (some (0, il ns)) (some (0, .str (vt v))) x2 x3 x4 (some (0, .str L)) (some (0, .int ((scan (L.length + 1) L []).2 : Nat))) none (some (0, v.d)) (some (0, .bl good)) (some (0, tl (scan (L.length + 1) L []).1)) (some (0, .int ((scan (L.length + 1) L []).2 : Nat))) none) (by simp [b20, nth, evalSs, evalS, evalT, evalE, evalEs, Out.bind, Out.fl, EV.d, EV.free, EV.fit, BT.fit, lift, liftB, cmpop, truth, assign, optFl, Fl.call, isD_nn, isD_bb, isN, scal_if, LIM, eqi, hq])]
  obtain ⟨x10, x11, hmid2⟩ := hmid2
  rw [hmid2]
  obtain ⟨q1, q2⟩ := rvR_flt L
  by_cases hz : flt L = 0
  · obtain ⟨w, w1, w2, w3, w4⟩ := q1 hz
    rw [w4] at h5
    rw [hz] at h6 ⊢
    have h3w : C 3 [w.d] [] = .ok 0 (.str L) [] := by
      rw [← w3]
      exact H3 w (w2.le (by decide)) (by omega)
    rw [ev_next (s' := sv20 (some (0, il ns)) (some (0, .str (vt v))) x2 x3 x4 (some (0, .str L)) (some (0, .int (0 : Nat))) none (some (0, v.d)) (some (0, .bl good)) x10 x11 none) (by simp [b20, nth, evalSs, evalS, evalT, evalE, evalEs, Out.bind, Out.fl, EV.d, EV.free, EV.fit, BT.fit, lift, liftB, cmpop, truth, assign, optFl, Fl.call, isD_nn, isD_bb, isN, scal_if, LIM, eqi, h6]),
      ev_next (s' := sv20 (some (0, il ns)) (some (0, .str (vt v))) x2 x3 x4 (some (0, .str L)) (some (0, .int (0 : Nat))) none (some (0, v.d)) (some (0, .bl good)) x10 x11 (some (0, w.d))) (by simp [b20, nth, evalSs, evalS, evalT, evalE, evalEs, Out.bind, Out.fl, EV.d, EV.free, EV.fit, BT.fit, lift, liftB, cmpop, truth, assign, optFl, Fl.call, isD_nn, isD_bb, isN, scal_if, LIM, h5])]
    by_cases hL : L = vt v
    · have hwv : w = v := vt_inj (w2.le (by decide)) v1 (w3.trans hL)
      subst hwv
      obtain ⟨k, h17⟩ := H17 w (by omega)
      simp [b20, nth, evalSs, evalS, evalT, evalE, evalEs, Out.bind, Out.fl, EV.d, EV.free, EV.fit, BT.fit, lift, liftB, cmpop, truth, assign, optFl, Fl.call, isD_nn, isD_bb, isN, scal_if, LIM, eqi, eqs, hL, h17, h3]
    · simp [b20, nth, evalSs, evalS, evalT, evalE, evalEs, Out.bind, Out.fl, EV.d, EV.free, EV.fit, BT.fit, lift, liftB, cmpop, truth, assign, optFl, Fl.call, isD_nn, isD_bb, isN, scal_if, LIM, eqi, eqs, hL, h3w]
  · rw [q2 hz] at h5
    have hg : 0 < flt L := by omega
    rw [ev_next (s' := sv20 (some (0, il ns)) (some (0, .str (vt v))) x2 x3 x4 (some (0, .str L)) (some (0, .int (flt L : Nat))) none (some (0, v.d)) (some (0, .bl good)) x10 x11 none) (by simp [b20, nth, evalSs, evalS, evalT, evalE, evalEs, Out.bind, Out.fl, EV.d, EV.free, EV.fit, BT.fit, lift, liftB, cmpop, truth, assign, optFl, Fl.call, isD_nn, isD_bb, isN, scal_if, LIM, eqi, h6, hz, hg])]
    simp [b20, nth, evalSs, evalS, evalT, evalE, evalEs, Out.bind, Out.fl, EV.d, EV.free, EV.fit, BT.fit, lift, liftB, cmpop, truth, assign, optFl, Fl.call, isD_nn, isD_bb, isN, scal_if, LIM, h5, eqi, Fl.outX, hg, noC, S.noX, noX, noXS, List.lookup, scal]
theorem values_ok {ns : List Int} (hn : ns.length ≤ 63) : callF Tbl W (n + 10) 20 [il ns] [] = .ok 0 (.bl true) [] := by
  rw [callF_eq (n := n + 9) (fd := ⟨1, 13, b20⟩) rfl rfl (by decide)]
  obtain ⟨v, good, v1, v2, h15⟩ := value_ok (W := W) (n := n + 7) (sto := []) (ns := ns) (k := 14) hn
  obtain ⟨rs, l0, h0⟩ := row7 (W := W) (n := n + 8) (sto := []) (ns := ns) (k := 24) (c := 3) hn (by decide)
  obtain ⟨a, b, c, rfl⟩ := three l0
  exact values_core v1 v2 h15 h0 (fun w w1 w2 => vt_ok (f := 16) (.inr ⟨rfl, rfl⟩) w (n + 9) w1 (by omega) (by omega)) (fun w w1 w2 => vt_ok (f := 3) (.inl ⟨rfl, rfl⟩) w (n + 9) w1 (by omega) (by omega))
    (fun L h => scan_ok (n := n + 8) h) (fun ts h1 h2 => join_ok (n := n + 8) h1 h2) (fun L h => ivt_ok (n := n + 6) h) (fun L h => rv_ok (n := n + 7) h) (fun ts h1 h2 => fault_ok (n := n + 7) h1 h2) (fun w h => eq_ok w (n + 9) (by omega))
theorem main0 {ns : List Int} (h : ns.length ≤ 63) : ∃ k sto, callF Tbl 100000 100 21 [.lst (ns.map .int)] [] = .ok k (.bl true) sto := by
  refine ⟨0, [], ?_⟩
  rw [callF_eq (n := 99) (fd := ⟨1, 1, b21⟩) rfl rfl (by decide)]
  have h12 : callF Tbl 100000 99 12 [il ns] [] = .ok 0 (.bl true) [] := lines_ok (n := 96) h
  have h14 : callF Tbl 100000 99 14 [il ns] [] = .ok 0 (.bl true) [] := words_ok (n := 97) h
  have h20 : callF Tbl 100000 99 20 [il ns] [] = .ok 0 (.bl true) [] := values_ok (n := 89) h
  show (evalSs (callF Tbl 100000 99) 100000 b21 ⟨[some (0, il ns)], []⟩).call = _
  generalize callF Tbl 100000 99 = C at *
  simp [b21, evalSs, evalS, evalT, evalE, evalEs, Out.bind, Out.fl, EV.d, EV.free, EV.fit, BT.fit, lift, liftB, cmpop, truth, assign, optFl, Fl.call, isD_nn, isD_bb, isN, scal_if, LIM, h12, h14, h20]
end K89
end

section
namespace K89
open PySem PySem.Spec L2 BT
open PyProof.Rows hiding St
set_option autoImplicit false
def names : List PySem.Str := ["tokens_of", "number_in", "is_name", "value_text", "takes_more", "read_value", "is_value_text", "_law_row", "_law_is_integer", "_law_scan", "_law_word", "_law_line", "_law_lines", "_law_number", "_law_words", "_law_value", "_law_text", "_law_equal", "_law_fault", "_law_joined", "_law_values", "law"]
def nm : Nat → Option PySem.Str := fun n => names[n]?
def blts : List PySem.Str := ["bool", "enumerate", "int", "isinstance", "len", "list", "max", "range", "str", "tuple"]
def cstr : PySem.Str → Option (List Nat) := fun x => if x = "DIGITS" then some [48, 49, 50, 51, 52, 53, 54, 55, 56, 57] else if x = "LETTERS" then some [97, 98, 99, 100, 101, 102, 103, 104, 105, 106, 107, 108, 109, 110, 111, 112, 113, 114, 115, 116, 117, 118, 119, 120, 121, 122] else none
def cint : PySem.Str → Option Int := fun x => if x = "DEEPEST" then some 4 else none
def exs : List (PySem.Str × List PySem.Str) := [("DeedsError", []), ("TextError", ["line", "token"])]
def exc : Nat → Option (PySem.Str × List PySem.Str) := fun n => exs[n]?
def esub : Nat → Nat → Bool := fun a b => [(0, 0), (1, 0), (1, 1)].contains (a, b)
def eid : PySem.Str → Option Nat := fun x => if x = "DeedsError" then some 0 else if x = "TextError" then some 1 else none
def md : Md := ⟨nm, blts, false, cstr, cint, 2, exc, esub, eid⟩
/-! ### they tell the text -/
def topS (i : Nat) : Stmt := PySem.Challenge.pw_besideandthrough_k89_tokens_and_values.main.body.getD i (.Pass ⟨0, 0, 0, 0⟩)
abbrev s0 : Stmt := topS 6
abbrev n0 : List PySem.Str := ["line", "number", "found", "word", "ready", "blank", "sign"]
abbrev p0 : List PySem.Str := ["line", "number"]
theorem sc0 : FnScope n0 p0 (defScope s0) := ⟨rfl, rfl, rfl, by decide +kernel, rfl, by decide +kernel, by decide +kernel⟩
theorem ck0 : ckSs ⟨n0, defScope s0, md, none⟩ b0 (defBody s0) = true := by decide +kernel
abbrev s1 : Stmt := topS 7
abbrev n1 : List PySem.Str := ["token", "sign"]
abbrev p1 : List PySem.Str := ["token"]
theorem sc1 : FnScope n1 p1 (defScope s1) := ⟨rfl, rfl, rfl, by decide +kernel, rfl, by decide +kernel, by decide +kernel⟩
theorem ck1 : ckSs ⟨n1, defScope s1, md, none⟩ b1 (defBody s1) = true := by decide +kernel
abbrev s2 : Stmt := topS 8
abbrev n2 : List PySem.Str := ["token", "sign"]
abbrev p2 : List PySem.Str := ["token"]
theorem sc2 : FnScope n2 p2 (defScope s2) := ⟨rfl, rfl, rfl, by decide +kernel, rfl, by decide +kernel, by decide +kernel⟩
theorem ck2 : ckSs ⟨n2, defScope s2, md, none⟩ b2 (defBody s2) = true := by decide +kernel
abbrev s3 : Stmt := topS 11
abbrev n3 : List PySem.Str := ["value"]
abbrev p3 : List PySem.Str := ["value"]
theorem sc3 : FnScope n3 p3 (defScope s3) := ⟨rfl, rfl, rfl, by decide +kernel, rfl, by decide +kernel, by decide +kernel⟩
theorem ck3 : ckSs ⟨n3, defScope s3, md, none⟩ b3 (defBody s3) = true := by decide +kernel
abbrev s4 : Stmt := topS 12
abbrev n4 : List PySem.Str := ["pairs"]
abbrev p4 : List PySem.Str := ["pairs"]
theorem sc4 : FnScope n4 p4 (defScope s4) := ⟨rfl, rfl, rfl, by decide +kernel, rfl, by decide +kernel, by decide +kernel⟩
theorem ck4 : ckSs ⟨n4, defScope s4, md, none⟩ b4 (defBody s4) = true := by decide +kernel
abbrev s5 : Stmt := topS 13
abbrev n5 : List PySem.Str := ["text", "found", "pairs", "result", "at", "token", "item", "pair"]
abbrev p5 : List PySem.Str := ["text"]
theorem sc5 : FnScope n5 p5 (defScope s5) := ⟨rfl, rfl, rfl, by decide +kernel, rfl, by decide +kernel, by decide +kernel⟩
theorem ck5 : ckSs ⟨n5, defScope s5, md, none⟩ b5 (defBody s5) = true := by decide +kernel
abbrev s6 : Stmt := topS 14
abbrev n6 : List PySem.Str := ["text"]
abbrev p6 : List PySem.Str := ["text"]
theorem sc6 : FnScope n6 p6 (defScope s6) := ⟨rfl, rfl, rfl, by decide +kernel, rfl, by decide +kernel, by decide +kernel⟩
theorem ck6 : ckSs ⟨n6, defScope s6, md, none⟩ b6 (defBody s6) = true := by decide +kernel
abbrev s7 : Stmt := topS 16
abbrev n7 : List PySem.Str := ["_law_script", "_law_k", "_law_count", "_law_cell", "_law_row_here", "_law_seed", "_law_at"]
abbrev p7 : List PySem.Str := ["_law_script", "_law_k", "_law_count"]
theorem sc7 : FnScope n7 p7 (defScope s7) := ⟨rfl, rfl, rfl, by decide +kernel, rfl, by decide +kernel, by decide +kernel⟩
theorem ck7 : ckSs ⟨n7, defScope s7, md, none⟩ b7 (defBody s7) = true := by decide +kernel
abbrev s8 : Stmt := topS 17
abbrev n8 : List PySem.Str := ["_law_actual"]
abbrev p8 : List PySem.Str := ["_law_actual"]
theorem sc8 : FnScope n8 p8 (defScope s8) := ⟨rfl, rfl, rfl, by decide +kernel, rfl, by decide +kernel, by decide +kernel⟩
theorem ck8 : ckSs ⟨n8, defScope s8, md, none⟩ b8 (defBody s8) = true := by decide +kernel
abbrev s9 : Stmt := topS 18
abbrev n9 : List PySem.Str := ["_law_line_here", "_law_found", "_law_at", "_law_turn", "_law_end", "_law_sign"]
abbrev p9 : List PySem.Str := ["_law_line_here"]
theorem sc9 : FnScope n9 p9 (defScope s9) := ⟨rfl, rfl, rfl, by decide +kernel, rfl, by decide +kernel, by decide +kernel⟩
theorem ck9 : ckSs ⟨n9, defScope s9, md, none⟩ b9 (defBody s9) = true := by decide +kernel
abbrev s10 : Stmt := topS 19
abbrev n10 : List PySem.Str := ["_law_row_here", "_law_words_here"]
abbrev p10 : List PySem.Str := ["_law_row_here"]
theorem sc10 : FnScope n10 p10 (defScope s10) := ⟨rfl, rfl, rfl, by decide +kernel, rfl, by decide +kernel, by decide +kernel⟩
theorem ck10 : ckSs ⟨n10, defScope s10, md, none⟩ b10 (defBody s10) = true := by decide +kernel
abbrev s11 : Stmt := topS 20
abbrev n11 : List PySem.Str := ["_law_script", "_law_line_here", "_law_at", "_law_row_here", "_law_word_here", "_law_place"]
abbrev p11 : List PySem.Str := ["_law_script"]
theorem sc11 : FnScope n11 p11 (defScope s11) := ⟨rfl, rfl, rfl, by decide +kernel, rfl, by decide +kernel, by decide +kernel⟩
theorem ck11 : ckSs ⟨n11, defScope s11, md, none⟩ b11 (defBody s11) = true := by decide +kernel
abbrev s12 : Stmt := topS 21
abbrev n12 : List PySem.Str := ["_law_script", "_law_line_here", "_law_number_here", "e", "_law_tokens", "_law_fault_here", "_law_told"]
abbrev p12 : List PySem.Str := ["_law_script"]
theorem sc12 : FnScope n12 p12 (defScope s12) := ⟨rfl, rfl, rfl, by decide +kernel, rfl, by decide +kernel, by decide +kernel⟩
theorem ck12 : ckSs ⟨n12, defScope s12, md, none⟩ b12 (defBody s12) = true := by decide +kernel
abbrev s13 : Stmt := topS 22
abbrev n13 : List PySem.Str := ["_law_token", "_law_sign"]
abbrev p13 : List PySem.Str := ["_law_token"]
theorem sc13 : FnScope n13 p13 (defScope s13) := ⟨rfl, rfl, rfl, by decide +kernel, rfl, by decide +kernel, by decide +kernel⟩
theorem ck13 : ckSs ⟨n13, defScope s13, md, none⟩ b13 (defBody s13) = true := by decide +kernel
abbrev s14 : Stmt := topS 23
abbrev n14 : List PySem.Str := ["_law_script", "_law_signs", "_law_row_here", "_law_token", "_law_at", "_law_number_here", "_law_due", "_law_sign", "_law_told"]
abbrev p14 : List PySem.Str := ["_law_script"]
theorem sc14 : FnScope n14 p14 (defScope s14) := ⟨rfl, rfl, rfl, by decide +kernel, rfl, by decide +kernel, by decide +kernel⟩
theorem ck14 : ckSs ⟨n14, defScope s14, md, none⟩ b14 (defBody s14) = true := by decide +kernel
abbrev s15 : Stmt := topS 24
abbrev n15 : List PySem.Str := ["_law_script", "_law_k", "_law_row_here", "_law_pile", "_law_large", "_law_at", "_law_one", "_law_pair", "_law_number_here"]
abbrev p15 : List PySem.Str := ["_law_script", "_law_k"]
theorem sc15 : FnScope n15 p15 (defScope s15) := ⟨rfl, rfl, rfl, by decide +kernel, rfl, by decide +kernel, by decide +kernel⟩
theorem ck15 : ckSs ⟨n15, defScope s15, md, none⟩ b15 (defBody s15) = true := by decide +kernel
abbrev s16 : Stmt := topS 25
abbrev n16 : List PySem.Str := ["_law_value_here"]
abbrev p16 : List PySem.Str := ["_law_value_here"]
theorem sc16 : FnScope n16 p16 (defScope s16) := ⟨rfl, rfl, rfl, by decide +kernel, rfl, by decide +kernel, by decide +kernel⟩
theorem ck16 : ckSs ⟨n16, defScope s16, md, none⟩ b16 (defBody s16) = true := by decide +kernel
abbrev s17 : Stmt := topS 26
abbrev n17 : List PySem.Str := ["_law_told", "_law_due"]
abbrev p17 : List PySem.Str := ["_law_told", "_law_due"]
theorem sc17 : FnScope n17 p17 (defScope s17) := ⟨rfl, rfl, rfl, by decide +kernel, rfl, by decide +kernel, by decide +kernel⟩
theorem ck17 : ckSs ⟨n17, defScope s17, md, none⟩ b17 (defBody s17) = true := by decide +kernel
abbrev s18 : Stmt := topS 27
abbrev n18 : List PySem.Str := ["_law_tokens", "_law_counts", "_law_done", "_law_at", "_law_token", "_law_room", "_law_closed"]
abbrev p18 : List PySem.Str := ["_law_tokens"]
theorem sc18 : FnScope n18 p18 (defScope s18) := ⟨rfl, rfl, rfl, by decide +kernel, rfl, by decide +kernel, by decide +kernel⟩
theorem ck18 : ckSs ⟨n18, defScope s18, md, none⟩ b18 (defBody s18) = true := by decide +kernel
abbrev s19 : Stmt := topS 28
abbrev n19 : List PySem.Str := ["_law_tokens", "_law_line_here", "_law_token"]
abbrev p19 : List PySem.Str := ["_law_tokens"]
theorem sc19 : FnScope n19 p19 (defScope s19) := ⟨rfl, rfl, rfl, by decide +kernel, rfl, by decide +kernel, by decide +kernel⟩
theorem ck19 : ckSs ⟨n19, defScope s19, md, none⟩ b19 (defBody s19) = true := by decide +kernel
abbrev s20 : Stmt := topS 29
abbrev n20 : List PySem.Str := ["_law_script", "_law_text_here", "_law_tokens", "_law_row_here", "_law_place", "_law_line_here", "_law_fault_here", "e", "_law_value_here", "_law_good", "_law_scanned", "_law_spacing", "_law_told"]
abbrev p20 : List PySem.Str := ["_law_script"]
theorem sc20 : FnScope n20 p20 (defScope s20) := ⟨rfl, rfl, rfl, by decide +kernel, rfl, by decide +kernel, by decide +kernel⟩
theorem ck20 : ckSs ⟨n20, defScope s20, md, none⟩ b20 (defBody s20) = true := by decide +kernel
abbrev s21 : Stmt := topS 30
abbrev n21 : List PySem.Str := ["_law_script"]
abbrev p21 : List PySem.Str := ["_law_script"]
theorem sc21 : FnScope n21 p21 (defScope s21) := ⟨rfl, rfl, rfl, by decide +kernel, rfl, by decide +kernel, by decide +kernel⟩
theorem ck21 : ckSs ⟨n21, defScope s21, md, none⟩ b21 (defBody s21) = true := by decide +kernel
/-! ### what the top has left -/
def mkX (K : PySem.W.Frag) : List (Value × List PySem.Str) := [(clsA K "DeedsError", []), (clsA K "TextError", ["line", "token"])]
def mkT (K : PySem.W.Frag) : Tb := ⟨K, fun _ => none, fun c => (mkX K)[c]?, none⟩
def depth : Nat := 100
def turns : Nat := 100000
theorem law_ok {l : PySem.W.OpenLaw} {w : World} {K : PySem.W.Frag} {h : Heap} {mg : PySem.Str → Option Value} {fa : Addr} (X : K.In h) (G : h.Ns mainGlobals mg) (hfa : mg "law" = some (.ref fa))
    {f0 : Addr} {oc0 kV0 dc0 pm0 cd0 ct0 : Value} {od0 an0 : Option Addr} {sl0 : Array (Option Value)}
    (a0 : PySem.W.nsIn K mainGlobals "tokens_of" = some (some (.ref f0)))
    (l0 : K.lookup f0 = some ⟨oc0, od0, .func (PySem.W.fnOf "tokens_of" "tokens_of" (defArgs s0) (defBody s0) (defScope s0) .none kV0 dc0 pm0 an0 cd0 ct0), sl0⟩)
    (c0 : PySem.W.codeIn K cd0 "tokens_of" = true) (k0 : PySem.W.keepIn K (.ref f0) = true)
    {f1 : Addr} {oc1 kV1 dc1 pm1 cd1 ct1 : Value} {od1 an1 : Option Addr} {sl1 : Array (Option Value)}
    (a1 : PySem.W.nsIn K mainGlobals "number_in" = some (some (.ref f1)))
    (l1 : K.lookup f1 = some ⟨oc1, od1, .func (PySem.W.fnOf "number_in" "number_in" (defArgs s1) (defBody s1) (defScope s1) .none kV1 dc1 pm1 an1 cd1 ct1), sl1⟩)
    (c1 : PySem.W.codeIn K cd1 "number_in" = true) (k1 : PySem.W.keepIn K (.ref f1) = true)
    {f2 : Addr} {oc2 kV2 dc2 pm2 cd2 ct2 : Value} {od2 an2 : Option Addr} {sl2 : Array (Option Value)}
    (a2 : PySem.W.nsIn K mainGlobals "is_name" = some (some (.ref f2)))
    (l2 : K.lookup f2 = some ⟨oc2, od2, .func (PySem.W.fnOf "is_name" "is_name" (defArgs s2) (defBody s2) (defScope s2) .none kV2 dc2 pm2 an2 cd2 ct2), sl2⟩)
    (c2 : PySem.W.codeIn K cd2 "is_name" = true) (k2 : PySem.W.keepIn K (.ref f2) = true)
    {f3 : Addr} {oc3 kV3 dc3 pm3 cd3 ct3 : Value} {od3 an3 : Option Addr} {sl3 : Array (Option Value)}
    (a3 : PySem.W.nsIn K mainGlobals "value_text" = some (some (.ref f3)))
    (l3 : K.lookup f3 = some ⟨oc3, od3, .func (PySem.W.fnOf "value_text" "value_text" (defArgs s3) (defBody s3) (defScope s3) .none kV3 dc3 pm3 an3 cd3 ct3), sl3⟩)
    (c3 : PySem.W.codeIn K cd3 "value_text" = true) (k3 : PySem.W.keepIn K (.ref f3) = true)
    {f4 : Addr} {oc4 kV4 dc4 pm4 cd4 ct4 : Value} {od4 an4 : Option Addr} {sl4 : Array (Option Value)}
    (a4 : PySem.W.nsIn K mainGlobals "takes_more" = some (some (.ref f4)))
    (l4 : K.lookup f4 = some ⟨oc4, od4, .func (PySem.W.fnOf "takes_more" "takes_more" (defArgs s4) (defBody s4) (defScope s4) .none kV4 dc4 pm4 an4 cd4 ct4), sl4⟩)
    (c4 : PySem.W.codeIn K cd4 "takes_more" = true) (k4 : PySem.W.keepIn K (.ref f4) = true)
    {f5 : Addr} {oc5 kV5 dc5 pm5 cd5 ct5 : Value} {od5 an5 : Option Addr} {sl5 : Array (Option Value)}
    (a5 : PySem.W.nsIn K mainGlobals "read_value" = some (some (.ref f5)))
    (l5 : K.lookup f5 = some ⟨oc5, od5, .func (PySem.W.fnOf "read_value" "read_value" (defArgs s5) (defBody s5) (defScope s5) .none kV5 dc5 pm5 an5 cd5 ct5), sl5⟩)
    (c5 : PySem.W.codeIn K cd5 "read_value" = true) (k5 : PySem.W.keepIn K (.ref f5) = true)
    {f6 : Addr} {oc6 kV6 dc6 pm6 cd6 ct6 : Value} {od6 an6 : Option Addr} {sl6 : Array (Option Value)}
    (a6 : PySem.W.nsIn K mainGlobals "is_value_text" = some (some (.ref f6)))
    (l6 : K.lookup f6 = some ⟨oc6, od6, .func (PySem.W.fnOf "is_value_text" "is_value_text" (defArgs s6) (defBody s6) (defScope s6) .none kV6 dc6 pm6 an6 cd6 ct6), sl6⟩)
    (c6 : PySem.W.codeIn K cd6 "is_value_text" = true) (k6 : PySem.W.keepIn K (.ref f6) = true)
    {f7 : Addr} {oc7 kV7 dc7 pm7 cd7 ct7 : Value} {od7 an7 : Option Addr} {sl7 : Array (Option Value)}
    (a7 : PySem.W.nsIn K mainGlobals "_law_row" = some (some (.ref f7)))
    (l7 : K.lookup f7 = some ⟨oc7, od7, .func (PySem.W.fnOf "_law_row" "_law_row" (defArgs s7) (defBody s7) (defScope s7) .none kV7 dc7 pm7 an7 cd7 ct7), sl7⟩)
    (c7 : PySem.W.codeIn K cd7 "_law_row" = true) (k7 : PySem.W.keepIn K (.ref f7) = true)
    {f8 : Addr} {oc8 kV8 dc8 pm8 cd8 ct8 : Value} {od8 an8 : Option Addr} {sl8 : Array (Option Value)}
    (a8 : PySem.W.nsIn K mainGlobals "_law_is_integer" = some (some (.ref f8)))
    (l8 : K.lookup f8 = some ⟨oc8, od8, .func (PySem.W.fnOf "_law_is_integer" "_law_is_integer" (defArgs s8) (defBody s8) (defScope s8) .none kV8 dc8 pm8 an8 cd8 ct8), sl8⟩)
    (c8 : PySem.W.codeIn K cd8 "_law_is_integer" = true) (k8 : PySem.W.keepIn K (.ref f8) = true)
    {f9 : Addr} {oc9 kV9 dc9 pm9 cd9 ct9 : Value} {od9 an9 : Option Addr} {sl9 : Array (Option Value)}
    (a9 : PySem.W.nsIn K mainGlobals "_law_scan" = some (some (.ref f9)))
    (l9 : K.lookup f9 = some ⟨oc9, od9, .func (PySem.W.fnOf "_law_scan" "_law_scan" (defArgs s9) (defBody s9) (defScope s9) .none kV9 dc9 pm9 an9 cd9 ct9), sl9⟩)
    (c9 : PySem.W.codeIn K cd9 "_law_scan" = true) (k9 : PySem.W.keepIn K (.ref f9) = true)
    {f10 : Addr} {oc10 kV10 dc10 pm10 cd10 ct10 : Value} {od10 an10 : Option Addr} {sl10 : Array (Option Value)}
    (a10 : PySem.W.nsIn K mainGlobals "_law_word" = some (some (.ref f10)))
    (l10 : K.lookup f10 = some ⟨oc10, od10, .func (PySem.W.fnOf "_law_word" "_law_word" (defArgs s10) (defBody s10) (defScope s10) .none kV10 dc10 pm10 an10 cd10 ct10), sl10⟩)
    (c10 : PySem.W.codeIn K cd10 "_law_word" = true) (k10 : PySem.W.keepIn K (.ref f10) = true)
    {f11 : Addr} {oc11 kV11 dc11 pm11 cd11 ct11 : Value} {od11 an11 : Option Addr} {sl11 : Array (Option Value)}
    (a11 : PySem.W.nsIn K mainGlobals "_law_line" = some (some (.ref f11)))
    (l11 : K.lookup f11 = some ⟨oc11, od11, .func (PySem.W.fnOf "_law_line" "_law_line" (defArgs s11) (defBody s11) (defScope s11) .none kV11 dc11 pm11 an11 cd11 ct11), sl11⟩)
    (c11 : PySem.W.codeIn K cd11 "_law_line" = true) (k11 : PySem.W.keepIn K (.ref f11) = true)
    {f12 : Addr} {oc12 kV12 dc12 pm12 cd12 ct12 : Value} {od12 an12 : Option Addr} {sl12 : Array (Option Value)}
    (a12 : PySem.W.nsIn K mainGlobals "_law_lines" = some (some (.ref f12)))
    (l12 : K.lookup f12 = some ⟨oc12, od12, .func (PySem.W.fnOf "_law_lines" "_law_lines" (defArgs s12) (defBody s12) (defScope s12) .none kV12 dc12 pm12 an12 cd12 ct12), sl12⟩)
    (c12 : PySem.W.codeIn K cd12 "_law_lines" = true) (k12 : PySem.W.keepIn K (.ref f12) = true)
    {f13 : Addr} {oc13 kV13 dc13 pm13 cd13 ct13 : Value} {od13 an13 : Option Addr} {sl13 : Array (Option Value)}
    (a13 : PySem.W.nsIn K mainGlobals "_law_number" = some (some (.ref f13)))
    (l13 : K.lookup f13 = some ⟨oc13, od13, .func (PySem.W.fnOf "_law_number" "_law_number" (defArgs s13) (defBody s13) (defScope s13) .none kV13 dc13 pm13 an13 cd13 ct13), sl13⟩)
    (c13 : PySem.W.codeIn K cd13 "_law_number" = true) (k13 : PySem.W.keepIn K (.ref f13) = true)
    {f14 : Addr} {oc14 kV14 dc14 pm14 cd14 ct14 : Value} {od14 an14 : Option Addr} {sl14 : Array (Option Value)}
    (a14 : PySem.W.nsIn K mainGlobals "_law_words" = some (some (.ref f14)))
    (l14 : K.lookup f14 = some ⟨oc14, od14, .func (PySem.W.fnOf "_law_words" "_law_words" (defArgs s14) (defBody s14) (defScope s14) .none kV14 dc14 pm14 an14 cd14 ct14), sl14⟩)
    (c14 : PySem.W.codeIn K cd14 "_law_words" = true) (k14 : PySem.W.keepIn K (.ref f14) = true)
    {f15 : Addr} {oc15 kV15 dc15 pm15 cd15 ct15 : Value} {od15 an15 : Option Addr} {sl15 : Array (Option Value)}
    (a15 : PySem.W.nsIn K mainGlobals "_law_value" = some (some (.ref f15)))
    (l15 : K.lookup f15 = some ⟨oc15, od15, .func (PySem.W.fnOf "_law_value" "_law_value" (defArgs s15) (defBody s15) (defScope s15) .none kV15 dc15 pm15 an15 cd15 ct15), sl15⟩)
    (c15 : PySem.W.codeIn K cd15 "_law_value" = true) (k15 : PySem.W.keepIn K (.ref f15) = true)
    {f16 : Addr} {oc16 kV16 dc16 pm16 cd16 ct16 : Value} {od16 an16 : Option Addr} {sl16 : Array (Option Value)}
    (a16 : PySem.W.nsIn K mainGlobals "_law_text" = some (some (.ref f16)))
    (l16 : K.lookup f16 = some ⟨oc16, od16, .func (PySem.W.fnOf "_law_text" "_law_text" (defArgs s16) (defBody s16) (defScope s16) .none kV16 dc16 pm16 an16 cd16 ct16), sl16⟩)
    (c16 : PySem.W.codeIn K cd16 "_law_text" = true) (k16 : PySem.W.keepIn K (.ref f16) = true)
    {f17 : Addr} {oc17 kV17 dc17 pm17 cd17 ct17 : Value} {od17 an17 : Option Addr} {sl17 : Array (Option Value)}
    (a17 : PySem.W.nsIn K mainGlobals "_law_equal" = some (some (.ref f17)))
    (l17 : K.lookup f17 = some ⟨oc17, od17, .func (PySem.W.fnOf "_law_equal" "_law_equal" (defArgs s17) (defBody s17) (defScope s17) .none kV17 dc17 pm17 an17 cd17 ct17), sl17⟩)
    (c17 : PySem.W.codeIn K cd17 "_law_equal" = true) (k17 : PySem.W.keepIn K (.ref f17) = true)
    {f18 : Addr} {oc18 kV18 dc18 pm18 cd18 ct18 : Value} {od18 an18 : Option Addr} {sl18 : Array (Option Value)}
    (a18 : PySem.W.nsIn K mainGlobals "_law_fault" = some (some (.ref f18)))
    (l18 : K.lookup f18 = some ⟨oc18, od18, .func (PySem.W.fnOf "_law_fault" "_law_fault" (defArgs s18) (defBody s18) (defScope s18) .none kV18 dc18 pm18 an18 cd18 ct18), sl18⟩)
    (c18 : PySem.W.codeIn K cd18 "_law_fault" = true) (k18 : PySem.W.keepIn K (.ref f18) = true)
    {f19 : Addr} {oc19 kV19 dc19 pm19 cd19 ct19 : Value} {od19 an19 : Option Addr} {sl19 : Array (Option Value)}
    (a19 : PySem.W.nsIn K mainGlobals "_law_joined" = some (some (.ref f19)))
    (l19 : K.lookup f19 = some ⟨oc19, od19, .func (PySem.W.fnOf "_law_joined" "_law_joined" (defArgs s19) (defBody s19) (defScope s19) .none kV19 dc19 pm19 an19 cd19 ct19), sl19⟩)
    (c19 : PySem.W.codeIn K cd19 "_law_joined" = true) (k19 : PySem.W.keepIn K (.ref f19) = true)
    {f20 : Addr} {oc20 kV20 dc20 pm20 cd20 ct20 : Value} {od20 an20 : Option Addr} {sl20 : Array (Option Value)}
    (a20 : PySem.W.nsIn K mainGlobals "_law_values" = some (some (.ref f20)))
    (l20 : K.lookup f20 = some ⟨oc20, od20, .func (PySem.W.fnOf "_law_values" "_law_values" (defArgs s20) (defBody s20) (defScope s20) .none kV20 dc20 pm20 an20 cd20 ct20), sl20⟩)
    (c20 : PySem.W.codeIn K cd20 "_law_values" = true) (k20 : PySem.W.keepIn K (.ref f20) = true)
    {f21 : Addr} {oc21 kV21 dc21 pm21 cd21 ct21 : Value} {od21 an21 : Option Addr} {sl21 : Array (Option Value)}
    (a21 : PySem.W.nsIn K mainGlobals "law" = some (some (.ref f21)))
    (l21 : K.lookup f21 = some ⟨oc21, od21, .func (PySem.W.fnOf "law" "law" (defArgs s21) (defBody s21) (defScope s21) .none kV21 dc21 pm21 an21 cd21 ct21), sl21⟩)
    (c21 : PySem.W.codeIn K cd21 "law" = true) (k21 : PySem.W.keepIn K (.ref f21) = true)
    (z0 : PySem.W.nsIn K mainGlobals "bool" = some none)
    (z1 : PySem.W.nsIn K mainGlobals "enumerate" = some none)
    (z2 : PySem.W.nsIn K mainGlobals "int" = some none)
    (z3 : PySem.W.nsIn K mainGlobals "isinstance" = some none)
    (z4 : PySem.W.nsIn K mainGlobals "len" = some none)
    (z5 : PySem.W.nsIn K mainGlobals "list" = some none)
    (z6 : PySem.W.nsIn K mainGlobals "max" = some none)
    (z7 : PySem.W.nsIn K mainGlobals "range" = some none)
    (z8 : PySem.W.nsIn K mainGlobals "str" = some none)
    (z9 : PySem.W.nsIn K mainGlobals "tuple" = some none)
    {ts0 : Tok} (ys0 : PySem.W.nsIn K mainGlobals "DIGITS" = some (some (.str (PySem.Str.ofString "0123456789") ts0)))
    {ts1 : Tok} (ys1 : PySem.W.nsIn K mainGlobals "LETTERS" = some (some (.str (PySem.Str.ofString "abcdefghijklmnopqrstuvwxyz") ts1)))
    {ti0 : Tok} (yi0 : PySem.W.nsIn K mainGlobals "DEEPEST" = some (some (.int 4 ti0)))
    (xsup : PySem.W.nsIn K mainGlobals "super" = some none)
    (xopq : PySem.W.nsIn K cStatics "thirdparty.any" = some none)
    (xtop : (l.prog.main.scope.names.lookup ("super" : PySem.Str)).isSome = false)
    (xcn : PySem.W.specialIn K (.builtin "object.__class__") "__get__" = some (some (.builtin "getset_descriptor.__get__")))
    (xct : PySem.W.takesIn K (.builtin "object.__class__") = some true)
    {C0 : Addr} {C1 : Addr}
    (xg0 : PySem.W.nsIn K mainGlobals "DeedsError" = some (some (.ref C0)))
    (xg1 : PySem.W.nsIn K mainGlobals "TextError" = some (some (.ref C1)))
    (xa0 : PySem.W.findIn K (.ref C0) "__getattribute__" = some (some (.builtin "BaseException.__getattribute__")))
    (xb0 : PySem.W.findIn K (.ref C0) "__getattr__" = some none)
    (xc0 : PySem.W.subIn K (.ref C0) (.type "BaseException") = some true)
    (xd0 : PySem.W.hasDictIn K C0 = true)
    (xe0 : PySem.W.findIn K (.ref C0) "__class__" = some (some (.builtin "object.__class__")))
    (xf0 : PySem.W.mroIn K C0 (.type "object") = some true)
    (xt0 : PySem.W.typeIn K (.ref C0) = some (.type "type"))
    (xs0_0 : PySem.W.subIn K (.ref C0) (.ref C0) = some true)
    (xs0_1 : PySem.W.subIn K (.ref C0) (.ref C1) = some false)
    (xa1 : PySem.W.findIn K (.ref C1) "__getattribute__" = some (some (.builtin "BaseException.__getattribute__")))
    (xb1 : PySem.W.findIn K (.ref C1) "__getattr__" = some none)
    (xc1 : PySem.W.subIn K (.ref C1) (.type "BaseException") = some true)
    (xd1 : PySem.W.hasDictIn K C1 = true)
    (xe1 : PySem.W.findIn K (.ref C1) "__class__" = some (some (.builtin "object.__class__")))
    (xf1 : PySem.W.mroIn K C1 (.type "object") = some true)
    (xt1 : PySem.W.typeIn K (.ref C1) = some (.type "type"))
    (xs1_0 : PySem.W.subIn K (.ref C1) (.ref C0) = some true)
    (xs1_1 : PySem.W.subIn K (.ref C1) (.ref C1) = some true)
    (xn1_line : PySem.W.findIn K (.ref C1) "line" = some none)
    (xn1_token : PySem.W.findIn K (.ref C1) "token" = some none)
    {ddx1 : Option Addr} {nmx1 qx1 : PySem.Str} {Nx1 : Addr} {bsx1 bmx1 subx1 : List Value} {snx1 : List PySem.Str} {abx1 : Bool} {colx1 : Option Bool} {k0x1 k1x1 k2x1 k3x1 k5x1 : Option Value} {fIx1 ccx1 cdax1 : Addr} {ocx1 docx1 pmx1 ctx1 o2x1 o3x1 : Value} {odx1 anx1 od2x1 od3x1 : Option Addr} {slx1 s2x1 s3x1 : Array (Option Value)} {vsx1 : Array Value} {filex1 : PySem.Str} {tfx1 : Tok}
    (xk1 : PySem.W.keepIn K (.ref C1) = true)
    (xo1 : K.lookup C1 = some ⟨.type "type", ddx1, .cls ⟨nmx1, bsx1, .ref C1 :: bmx1, Nx1, qx1, true, snx1, subx1, abx1, colx1, false⟩, #[k0x1, k1x1, k2x1, k3x1, some (.builtin "ValueError.__new__"), k5x1]⟩)
    (xv1 : PySem.HandSPX.refsVE bmx1 = true)
    (xh1 : PySem.W.findIn K (.ref C1) "__setattr__" = some (some (.builtin "object.__setattr__")))
    (xi1 : PySem.W.findIn K (.ref C1) "__init__" = some (some (.ref fIx1)))
    (xj1 : PySem.W.typeIn K (.ref fIx1) = some (.type "function"))
    (xl1 : K.lookup fIx1 = some ⟨ocx1, odx1, .func (PySem.W.fnX "__init__" "TextError.__init__" (defArgs (inClass (topS 2) 0)) (defBody (inClass (topS 2) 0)) (defScope (inClass (topS 2) 0)) [(("__class__" : PySem.Str), ccx1)] .none .none docx1 pmx1 anx1 (.ref cdax1) ctx1), slx1⟩)
    (xm1 : PySem.W.codeIn K (.ref cdax1) "TextError.__init__" = true)
    (xp1 : K.lookup cdax1 = some ⟨o2x1, od2x1, .fields vsx1, s2x1⟩)
    (xq1 : (vsx1)[2]? = some (.str filex1 tfx1))
    (xr1 : ((l.prog.main.file : PySem.Str) == filex1) = true)
    (xu1 : K.lookup ccx1 = some ⟨o3x1, od3x1, .cell (some (.ref C1)), s3x1⟩)
    (xw1 : PySem.W.mroIn K C1 (.ref C1) = some true)
    (xy1 : PySem.W.ks_superIn K C1 C1 "__init__" = some (some (.builtin "ValueError.__init__")))
    (xz1 : PySem.W.subIn K (.ref C1) (.type "ValueError") = some true)
    : ∃ fd : FuncData, (∀ (s : Shared) (u : Value), BindsTo s fd ⟨[u], []⟩ [("_law_script", u)]) ∧ ∀ base : Heap, K.In base → base.Ns mainGlobals mg → FnOk l.prog w K mg base (L2.CX l.prog w) (depth + 2) fa fd ["_law_script"] (spC (mkT K) (callF Tbl turns depth 21)) := by
  have D0 : DefAt Tbl md K mg 0 "tokens_of" f0 (PySem.W.fnOf "tokens_of" "tokens_of" (defArgs s0) (defBody s0) (defScope s0) .none kV0 dc0 pm0 an0 cd0 ct0) p0 :=
    ⟨s0, n0, b0, PySem.W.mg_of X G a0, fun_mk (st := s0) l0 c0 k0, sc0, fun us hl => (match us, hl with | [_, _], _ => rfl), rfl, ck0⟩
  have D1 : DefAt Tbl md K mg 1 "number_in" f1 (PySem.W.fnOf "number_in" "number_in" (defArgs s1) (defBody s1) (defScope s1) .none kV1 dc1 pm1 an1 cd1 ct1) p1 :=
    ⟨s1, n1, b1, PySem.W.mg_of X G a1, fun_mk (st := s1) l1 c1 k1, sc1, fun us hl => (match us, hl with | [_], _ => rfl), rfl, ck1⟩
  have D2 : DefAt Tbl md K mg 2 "is_name" f2 (PySem.W.fnOf "is_name" "is_name" (defArgs s2) (defBody s2) (defScope s2) .none kV2 dc2 pm2 an2 cd2 ct2) p2 :=
    ⟨s2, n2, b2, PySem.W.mg_of X G a2, fun_mk (st := s2) l2 c2 k2, sc2, fun us hl => (match us, hl with | [_], _ => rfl), rfl, ck2⟩
  have D3 : DefAt Tbl md K mg 3 "value_text" f3 (PySem.W.fnOf "value_text" "value_text" (defArgs s3) (defBody s3) (defScope s3) .none kV3 dc3 pm3 an3 cd3 ct3) p3 :=
    ⟨s3, n3, b3, PySem.W.mg_of X G a3, fun_mk (st := s3) l3 c3 k3, sc3, fun us hl => (match us, hl with | [_], _ => rfl), rfl, ck3⟩
  have D4 : DefAt Tbl md K mg 4 "takes_more" f4 (PySem.W.fnOf "takes_more" "takes_more" (defArgs s4) (defBody s4) (defScope s4) .none kV4 dc4 pm4 an4 cd4 ct4) p4 :=
    ⟨s4, n4, b4, PySem.W.mg_of X G a4, fun_mk (st := s4) l4 c4 k4, sc4, fun us hl => (match us, hl with | [_], _ => rfl), rfl, ck4⟩
  have D5 : DefAt Tbl md K mg 5 "read_value" f5 (PySem.W.fnOf "read_value" "read_value" (defArgs s5) (defBody s5) (defScope s5) .none kV5 dc5 pm5 an5 cd5 ct5) p5 :=
    ⟨s5, n5, b5, PySem.W.mg_of X G a5, fun_mk (st := s5) l5 c5 k5, sc5, fun us hl => (match us, hl with | [_], _ => rfl), rfl, ck5⟩
  have D6 : DefAt Tbl md K mg 6 "is_value_text" f6 (PySem.W.fnOf "is_value_text" "is_value_text" (defArgs s6) (defBody s6) (defScope s6) .none kV6 dc6 pm6 an6 cd6 ct6) p6 :=
    ⟨s6, n6, b6, PySem.W.mg_of X G a6, fun_mk (st := s6) l6 c6 k6, sc6, fun us hl => (match us, hl with | [_], _ => rfl), rfl, ck6⟩
  have D7 : DefAt Tbl md K mg 7 "_law_row" f7 (PySem.W.fnOf "_law_row" "_law_row" (defArgs s7) (defBody s7) (defScope s7) .none kV7 dc7 pm7 an7 cd7 ct7) p7 :=
    ⟨s7, n7, b7, PySem.W.mg_of X G a7, fun_mk (st := s7) l7 c7 k7, sc7, fun us hl => (match us, hl with | [_, _, _], _ => rfl), rfl, ck7⟩
  have D8 : DefAt Tbl md K mg 8 "_law_is_integer" f8 (PySem.W.fnOf "_law_is_integer" "_law_is_integer" (defArgs s8) (defBody s8) (defScope s8) .none kV8 dc8 pm8 an8 cd8 ct8) p8 :=
    ⟨s8, n8, b8, PySem.W.mg_of X G a8, fun_mk (st := s8) l8 c8 k8, sc8, fun us hl => (match us, hl with | [_], _ => rfl), rfl, ck8⟩
  have D9 : DefAt Tbl md K mg 9 "_law_scan" f9 (PySem.W.fnOf "_law_scan" "_law_scan" (defArgs s9) (defBody s9) (defScope s9) .none kV9 dc9 pm9 an9 cd9 ct9) p9 :=
    ⟨s9, n9, b9, PySem.W.mg_of X G a9, fun_mk (st := s9) l9 c9 k9, sc9, fun us hl => (match us, hl with | [_], _ => rfl), rfl, ck9⟩
  have D10 : DefAt Tbl md K mg 10 "_law_word" f10 (PySem.W.fnOf "_law_word" "_law_word" (defArgs s10) (defBody s10) (defScope s10) .none kV10 dc10 pm10 an10 cd10 ct10) p10 :=
    ⟨s10, n10, b10, PySem.W.mg_of X G a10, fun_mk (st := s10) l10 c10 k10, sc10, fun us hl => (match us, hl with | [_], _ => rfl), rfl, ck10⟩
  have D11 : DefAt Tbl md K mg 11 "_law_line" f11 (PySem.W.fnOf "_law_line" "_law_line" (defArgs s11) (defBody s11) (defScope s11) .none kV11 dc11 pm11 an11 cd11 ct11) p11 :=
    ⟨s11, n11, b11, PySem.W.mg_of X G a11, fun_mk (st := s11) l11 c11 k11, sc11, fun us hl => (match us, hl with | [_], _ => rfl), rfl, ck11⟩
  have D12 : DefAt Tbl md K mg 12 "_law_lines" f12 (PySem.W.fnOf "_law_lines" "_law_lines" (defArgs s12) (defBody s12) (defScope s12) .none kV12 dc12 pm12 an12 cd12 ct12) p12 :=
    ⟨s12, n12, b12, PySem.W.mg_of X G a12, fun_mk (st := s12) l12 c12 k12, sc12, fun us hl => (match us, hl with | [_], _ => rfl), rfl, ck12⟩
  have D13 : DefAt Tbl md K mg 13 "_law_number" f13 (PySem.W.fnOf "_law_number" "_law_number" (defArgs s13) (defBody s13) (defScope s13) .none kV13 dc13 pm13 an13 cd13 ct13) p13 :=
    ⟨s13, n13, b13, PySem.W.mg_of X G a13, fun_mk (st := s13) l13 c13 k13, sc13, fun us hl => (match us, hl with | [_], _ => rfl), rfl, ck13⟩
  have D14 : DefAt Tbl md K mg 14 "_law_words" f14 (PySem.W.fnOf "_law_words" "_law_words" (defArgs s14) (defBody s14) (defScope s14) .none kV14 dc14 pm14 an14 cd14 ct14) p14 :=
    ⟨s14, n14, b14, PySem.W.mg_of X G a14, fun_mk (st := s14) l14 c14 k14, sc14, fun us hl => (match us, hl with | [_], _ => rfl), rfl, ck14⟩
  have D15 : DefAt Tbl md K mg 15 "_law_value" f15 (PySem.W.fnOf "_law_value" "_law_value" (defArgs s15) (defBody s15) (defScope s15) .none kV15 dc15 pm15 an15 cd15 ct15) p15 :=
    ⟨s15, n15, b15, PySem.W.mg_of X G a15, fun_mk (st := s15) l15 c15 k15, sc15, fun us hl => (match us, hl with | [_, _], _ => rfl), rfl, ck15⟩
  have D16 : DefAt Tbl md K mg 16 "_law_text" f16 (PySem.W.fnOf "_law_text" "_law_text" (defArgs s16) (defBody s16) (defScope s16) .none kV16 dc16 pm16 an16 cd16 ct16) p16 :=
    ⟨s16, n16, b16, PySem.W.mg_of X G a16, fun_mk (st := s16) l16 c16 k16, sc16, fun us hl => (match us, hl with | [_], _ => rfl), rfl, ck16⟩
  have D17 : DefAt Tbl md K mg 17 "_law_equal" f17 (PySem.W.fnOf "_law_equal" "_law_equal" (defArgs s17) (defBody s17) (defScope s17) .none kV17 dc17 pm17 an17 cd17 ct17) p17 :=
    ⟨s17, n17, b17, PySem.W.mg_of X G a17, fun_mk (st := s17) l17 c17 k17, sc17, fun us hl => (match us, hl with | [_, _], _ => rfl), rfl, ck17⟩
  have D18 : DefAt Tbl md K mg 18 "_law_fault" f18 (PySem.W.fnOf "_law_fault" "_law_fault" (defArgs s18) (defBody s18) (defScope s18) .none kV18 dc18 pm18 an18 cd18 ct18) p18 :=
    ⟨s18, n18, b18, PySem.W.mg_of X G a18, fun_mk (st := s18) l18 c18 k18, sc18, fun us hl => (match us, hl with | [_], _ => rfl), rfl, ck18⟩
  have D19 : DefAt Tbl md K mg 19 "_law_joined" f19 (PySem.W.fnOf "_law_joined" "_law_joined" (defArgs s19) (defBody s19) (defScope s19) .none kV19 dc19 pm19 an19 cd19 ct19) p19 :=
    ⟨s19, n19, b19, PySem.W.mg_of X G a19, fun_mk (st := s19) l19 c19 k19, sc19, fun us hl => (match us, hl with | [_], _ => rfl), rfl, ck19⟩
  have D20 : DefAt Tbl md K mg 20 "_law_values" f20 (PySem.W.fnOf "_law_values" "_law_values" (defArgs s20) (defBody s20) (defScope s20) .none kV20 dc20 pm20 an20 cd20 ct20) p20 :=
    ⟨s20, n20, b20, PySem.W.mg_of X G a20, fun_mk (st := s20) l20 c20 k20, sc20, fun us hl => (match us, hl with | [_], _ => rfl), rfl, ck20⟩
  have D21 : DefAt Tbl md K mg 21 "law" f21 (PySem.W.fnOf "law" "law" (defArgs s21) (defBody s21) (defScope s21) .none kV21 dc21 pm21 an21 cd21 ct21) p21 :=
    ⟨s21, n21, b21, PySem.W.mg_of X G a21, fun_mk (st := s21) l21 c21 k21, sc21, fun us hl => (match us, hl with | [_], _ => rfl), rfl, ck21⟩
  have Y0 : XCls K C0 := ⟨⟨xa0, xb0, xc0, xd0⟩, xe0, xcn, xct, xf0, xt0⟩
  have Y1 : XCls K C1 := ⟨⟨xa1, xb1, xc1, xd1⟩, xe1, xcn, xct, xf1, xt1⟩
  have nz1 : ∀ f ∈ (["line", "token"] : List PySem.Str), PySem.W.findIn K (.ref C1) f = some none := fun f hf => by
    simp only [List.mem_cons, List.not_mem_nil, or_false] at hf
    rcases hf with rfl | rfl
    · exact xn1_line
    · exact xn1_token
  have Z1 := XIni.of (P := l.prog) (K := K) (mg := mg) (st := (inClass (topS 2) 0)) (fs := ["line", "token"]) xo1 xv1 xh1 xc1 xt1 xk1 (by decide) (by decide) nz1 xi1 xj1 (fun us hl => (match us, hl with | [_, _, _], _ => rfl)) xl1 xm1 xp1 xq1 xr1 xu1 xw1 (PySem.W.mg_none_of X G xsup) xtop xopq xy1 xz1 (by decide +kernel) (by decide +kernel) (by decide +kernel) (by decide +kernel)
  have XT : XTop (mkT K) l.prog K mg md := by
    refine ⟨fun c x ns hx => ?_, fun c v ns hx => ?_, fun c c2 p C2 ns2 h1 h2 => ?_, fun c p h => ?_⟩
    · match c, hx with
      | 0, hx =>
        have hx : some (("DeedsError" : PySem.Str), ([] : List PySem.Str)) = some (x, ns) := hx
        cases hx
        exact ⟨C0, (by show some (clsA K "DeedsError", ([] : List PySem.Str)) = _; rw [clsA_of xg0]), PySem.W.mg_of X G xg0, (by decide), fun h => absurd rfl h⟩
      | 1, hx =>
        have hx : some (("TextError" : PySem.Str), (["line", "token"] : List PySem.Str)) = some (x, ns) := hx
        cases hx
        exact ⟨C1, (by show some (clsA K "TextError", (["line", "token"] : List PySem.Str)) = _; rw [clsA_of xg1]), PySem.W.mg_of X G xg1, (by decide), fun _ => ⟨_, _, Z1⟩⟩
      | n + 2, hx => exact nomatch (show (none : Option (PySem.Str × List PySem.Str)) = some (x, ns) from hx)
    · match c, hx with
      | 0, hx =>
        have hx : some (clsA K "DeedsError", ([] : List PySem.Str)) = some (v, ns) := hx
        rw [clsA_of xg0] at hx
        cases hx
        exact ⟨C0, "DeedsError", rfl, rfl, (by decide), Y0, fun f hf => absurd hf (by simp)⟩
      | 1, hx =>
        have hx : some (clsA K "TextError", (["line", "token"] : List PySem.Str)) = some (v, ns) := hx
        rw [clsA_of xg1] at hx
        cases hx
        exact ⟨C1, "TextError", rfl, rfl, (by decide), Y1, nz1⟩
      | n + 2, hx => exact nomatch (show (none : Option (Value × List PySem.Str)) = some (v, ns) from hx)
    · match c, c2, h1, h2 with
      | 0, 0, h1, h2 =>
        have h1 : some (clsA K "DeedsError", ([] : List PySem.Str)) = some p := h1
        have h2 : some (clsA K "DeedsError", ([] : List PySem.Str)) = some (.ref C2, ns2) := h2
        rw [clsA_of xg0] at h1
        rw [clsA_of xg0] at h2
        cases h1; cases h2
        exact xs0_0
      | 0, 1, h1, h2 =>
        have h1 : some (clsA K "DeedsError", ([] : List PySem.Str)) = some p := h1
        have h2 : some (clsA K "TextError", (["line", "token"] : List PySem.Str)) = some (.ref C2, ns2) := h2
        rw [clsA_of xg0] at h1
        rw [clsA_of xg1] at h2
        cases h1; cases h2
        exact xs0_1
      | 1, 0, h1, h2 =>
        have h1 : some (clsA K "TextError", (["line", "token"] : List PySem.Str)) = some p := h1
        have h2 : some (clsA K "DeedsError", ([] : List PySem.Str)) = some (.ref C2, ns2) := h2
        rw [clsA_of xg1] at h1
        rw [clsA_of xg0] at h2
        cases h1; cases h2
        exact xs1_0
      | 1, 1, h1, h2 =>
        have h1 : some (clsA K "TextError", (["line", "token"] : List PySem.Str)) = some p := h1
        have h2 : some (clsA K "TextError", (["line", "token"] : List PySem.Str)) = some (.ref C2, ns2) := h2
        rw [clsA_of xg1] at h1
        rw [clsA_of xg1] at h2
        cases h1; cases h2
        exact xs1_1
      | n + 2, _, h1, h2 => exact nomatch (show (none : Option (Value × List PySem.Str)) = some p from h1)
      | 0, n + 2, h1, h2 => exact nomatch (show (none : Option (Value × List PySem.Str)) = some (.ref C2, ns2) from h2)
      | 1, n + 2, h1, h2 => exact nomatch (show (none : Option (Value × List PySem.Str)) = some (.ref C2, ns2) from h2)
    · match c, h with
      | 0, h => exact rfl
      | 1, h => exact rfl
      | n + 2, h => exact nomatch (show (none : Option (Value × List PySem.Str)) = some p from h)
  have H : Top (mkT K) Tbl md l.prog K mg := by
    refine ⟨rfl, rfl, XT, fun x hx => ?_, fun q => (nomatch q), fun x s hx => ?_, fun x i hx => ?_, fun f x hx => ?_⟩
    · have hx : x ∈ blts := by
        have h : blts.contains x = true := hx
        simpa using h
      simp only [blts, List.mem_cons, List.not_mem_nil, or_false] at hx
      rcases hx with rfl | rfl | rfl | rfl | rfl | rfl | rfl | rfl | rfl | rfl
      · exact PySem.W.mg_none_of X G z0
      · exact PySem.W.mg_none_of X G z1
      · exact PySem.W.mg_none_of X G z2
      · exact PySem.W.mg_none_of X G z3
      · exact PySem.W.mg_none_of X G z4
      · exact PySem.W.mg_none_of X G z5
      · exact PySem.W.mg_none_of X G z6
      · exact PySem.W.mg_none_of X G z7
      · exact PySem.W.mg_none_of X G z8
      · exact PySem.W.mg_none_of X G z9
    · have hx : cstr x = some s := hx
      unfold cstr at hx
      split at hx
      · rename_i e; subst e; cases hx; exact ⟨_, PySem.W.mg_of X G ys0, ts0, rfl⟩
      split at hx
      · rename_i e; subst e; cases hx; exact ⟨_, PySem.W.mg_of X G ys1, ts1, rfl⟩
      cases hx
    · have hx : cint x = some i := hx
      unfold cint at hx
      split at hx
      · rename_i e; subst e; cases hx; exact ⟨_, PySem.W.mg_of X G yi0, ti0, rfl⟩
      cases hx
    · match f, hx with
      | 0, hx => exact (Option.some.inj hx) ▸ ⟨_, _, _, D0⟩
      | 1, hx => exact (Option.some.inj hx) ▸ ⟨_, _, _, D1⟩
      | 2, hx => exact (Option.some.inj hx) ▸ ⟨_, _, _, D2⟩
      | 3, hx => exact (Option.some.inj hx) ▸ ⟨_, _, _, D3⟩
      | 4, hx => exact (Option.some.inj hx) ▸ ⟨_, _, _, D4⟩
      | 5, hx => exact (Option.some.inj hx) ▸ ⟨_, _, _, D5⟩
      | 6, hx => exact (Option.some.inj hx) ▸ ⟨_, _, _, D6⟩
      | 7, hx => exact (Option.some.inj hx) ▸ ⟨_, _, _, D7⟩
      | 8, hx => exact (Option.some.inj hx) ▸ ⟨_, _, _, D8⟩
      | 9, hx => exact (Option.some.inj hx) ▸ ⟨_, _, _, D9⟩
      | 10, hx => exact (Option.some.inj hx) ▸ ⟨_, _, _, D10⟩
      | 11, hx => exact (Option.some.inj hx) ▸ ⟨_, _, _, D11⟩
      | 12, hx => exact (Option.some.inj hx) ▸ ⟨_, _, _, D12⟩
      | 13, hx => exact (Option.some.inj hx) ▸ ⟨_, _, _, D13⟩
      | 14, hx => exact (Option.some.inj hx) ▸ ⟨_, _, _, D14⟩
      | 15, hx => exact (Option.some.inj hx) ▸ ⟨_, _, _, D15⟩
      | 16, hx => exact (Option.some.inj hx) ▸ ⟨_, _, _, D16⟩
      | 17, hx => exact (Option.some.inj hx) ▸ ⟨_, _, _, D17⟩
      | 18, hx => exact (Option.some.inj hx) ▸ ⟨_, _, _, D18⟩
      | 19, hx => exact (Option.some.inj hx) ▸ ⟨_, _, _, D19⟩
      | 20, hx => exact (Option.some.inj hx) ▸ ⟨_, _, _, D20⟩
      | 21, hx => exact (Option.some.inj hx) ▸ ⟨_, _, _, D21⟩
      | n + 22, hx => exact nomatch (show (none : Option PySem.Str) = some x from hx)
  exact law_fn l.prog w depth turns 21 H D21 hfa
theorem main : ∀ ns : List Int, ns.length ≤ 63 → ∃ k sto, callF Tbl turns depth 21 [.lst (ns.map .int)] [] = .ok k (.bl true) sto := fun ns h => main0 h
end K89
open PySem PySem.W PyProof.Rows in
set_option maxRecDepth 100000 in
set_option maxHeartbeats 0 in
theorem PySem.Challenge.cw_besideandthrough_k89_tokens_and_values_holds : PySem.Challenge.rw_besideandthrough_k89_tokens_and_values.Holds := by
  w_on; o_law; k_head; (case hw => w_witness2)
  k_fill
  refine BT.walk_bt (y := "_law_script") (mk := K89.mkT) (fun _ => rfl) (l := PySem.Challenge.rw_besideandthrough_k89_tokens_and_values) rfl rfl ⟨rfl, by decide, by decide⟩ K89.main (fun w h Y => PySem.W.kIn_of Y) ?F
  case F =>
    intro w mg fa h KX G hmg
    refine' K89.law_ok KX G hmg ?a0 ?l0 ?c0 ?k0 ?a1 ?l1 ?c1 ?k1 ?a2 ?l2 ?c2 ?k2 ?a3 ?l3 ?c3 ?k3 ?a4 ?l4 ?c4 ?k4 ?a5 ?l5 ?c5 ?k5 ?a6 ?l6 ?c6 ?k6 ?a7 ?l7 ?c7 ?k7 ?a8 ?l8 ?c8 ?k8 ?a9 ?l9 ?c9 ?k9 ?a10 ?l10 ?c10 ?k10 ?a11 ?l11 ?c11 ?k11 ?a12 ?l12 ?c12 ?k12 ?a13 ?l13 ?c13 ?k13 ?a14 ?l14 ?c14 ?k14 ?a15 ?l15 ?c15 ?k15 ?a16 ?l16 ?c16 ?k16 ?a17 ?l17 ?c17 ?k17 ?a18 ?l18 ?c18 ?k18 ?a19 ?l19 ?c19 ?k19 ?a20 ?l20 ?c20 ?k20 ?a21 ?l21 ?c21 ?k21 ?z0 ?z1 ?z2 ?z3 ?z4 ?z5 ?z6 ?z7 ?z8 ?z9 ?ys0 ?ys1 ?yi0 ?xsup ?xopq ?xtop ?xcn ?xct ?xg0 ?xg1 ?xa0 ?xb0 ?xc0 ?xd0 ?xe0 ?xf0 ?xt0 ?xs0_0 ?xs0_1 ?xa1 ?xb1 ?xc1 ?xd1 ?xe1 ?xf1 ?xt1 ?xs1_0 ?xs1_1 ?xn1_line ?xn1_token ?xk1 ?xo1 ?xv1 ?xh1 ?xi1 ?xj1 ?xl1 ?xm1 ?xp1 ?xq1 ?xr1 ?xu1 ?xw1 ?xy1 ?xz1
    (case a0 => k_is)
    (case l0 => k_is)
    (case c0 => k_is)
    (case k0 => k_is)
    (case a1 => k_is)
    (case l1 => k_is)
    (case c1 => k_is)
    (case k1 => k_is)
    (case a2 => k_is)
    (case l2 => k_is)
    (case c2 => k_is)
    (case k2 => k_is)
    (case a3 => k_is)
    (case l3 => k_is)
    (case c3 => k_is)
    (case k3 => k_is)
    (case a4 => k_is)
    (case l4 => k_is)
    (case c4 => k_is)
    (case k4 => k_is)
    (case a5 => k_is)
    (case l5 => k_is)
    (case c5 => k_is)
    (case k5 => k_is)
    (case a6 => k_is)
    (case l6 => k_is)
    (case c6 => k_is)
    (case k6 => k_is)
    (case a7 => k_is)
    (case l7 => k_is)
    (case c7 => k_is)
    (case k7 => k_is)
    (case a8 => k_is)
    (case l8 => k_is)
    (case c8 => k_is)
    (case k8 => k_is)
    (case a9 => k_is)
    (case l9 => k_is)
    (case c9 => k_is)
    (case k9 => k_is)
    (case a10 => k_is)
    (case l10 => k_is)
    (case c10 => k_is)
    (case k10 => k_is)
    (case a11 => k_is)
    (case l11 => k_is)
    (case c11 => k_is)
    (case k11 => k_is)
    (case a12 => k_is)
    (case l12 => k_is)
    (case c12 => k_is)
    (case k12 => k_is)
    (case a13 => k_is)
    (case l13 => k_is)
    (case c13 => k_is)
    (case k13 => k_is)
    (case a14 => k_is)
    (case l14 => k_is)
    (case c14 => k_is)
    (case k14 => k_is)
    (case a15 => k_is)
    (case l15 => k_is)
    (case c15 => k_is)
    (case k15 => k_is)
    (case a16 => k_is)
    (case l16 => k_is)
    (case c16 => k_is)
    (case k16 => k_is)
    (case a17 => k_is)
    (case l17 => k_is)
    (case c17 => k_is)
    (case k17 => k_is)
    (case a18 => k_is)
    (case l18 => k_is)
    (case c18 => k_is)
    (case k18 => k_is)
    (case a19 => k_is)
    (case l19 => k_is)
    (case c19 => k_is)
    (case k19 => k_is)
    (case a20 => k_is)
    (case l20 => k_is)
    (case c20 => k_is)
    (case k20 => k_is)
    (case a21 => k_is)
    (case l21 => k_is)
    (case c21 => k_is)
    (case k21 => k_is)
    (case z0 => k_is)
    (case z1 => k_is)
    (case z2 => k_is)
    (case z3 => k_is)
    (case z4 => k_is)
    (case z5 => k_is)
    (case z6 => k_is)
    (case z7 => k_is)
    (case z8 => k_is)
    (case z9 => k_is)
    (case ys0 => k_is)
    (case ys1 => k_is)
    (case yi0 => k_is)
    (case xsup => k_is)
    (case xopq => k_is)
    (case xtop => decide +kernel)
    (case xcn => k_is)
    (case xct => k_is)
    (case xg0 => k_is)
    (case xg1 => k_is)
    (case xa0 => k_is)
    (case xb0 => k_is)
    (case xc0 => k_is)
    (case xd0 => k_is)
    (case xe0 => k_is)
    (case xf0 => k_is)
    (case xt0 => k_is)
    (case xs0_0 => k_is)
    (case xs0_1 => k_is)
    (case xa1 => k_is)
    (case xb1 => k_is)
    (case xc1 => k_is)
    (case xd1 => k_is)
    (case xe1 => k_is)
    (case xf1 => k_is)
    (case xt1 => k_is)
    (case xs1_0 => k_is)
    (case xs1_1 => k_is)
    (case xn1_line => k_is)
    (case xn1_token => k_is)
    (case xk1 => k_is)
    (case xo1 => k_is)
    (case xv1 => exact rfl)
    (case xh1 => k_is)
    (case xi1 => k_is)
    (case xj1 => k_is)
    (case xl1 => k_is)
    (case xm1 => k_is)
    (case xp1 => k_is)
    (case xq1 => exact rfl)
    (case xr1 => decide +kernel)
    (case xu1 => k_is)
    (case xw1 => k_is)
    (case xy1 => ks_is)
    (case xz1 => k_is)
end
