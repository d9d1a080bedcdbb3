import PyProof.Rows.All
import Wide.All
import OpenK.AllK
import Wide.FinOn
import HandS.ForSpec
import HandS.Wide
import HandS.Gcd
import HandS.IsInst
import HandS.Flow
import HandS.Iter
import HandS.CallSlots
import HandS.Style
import HandS.Steps
import HandS.ForExc
import PySem.Challenge.RW_besideandthrough_k05_joined_is_least
set_option Elab.async false
set_option linter.all false
set_option maxRecDepth 100000
set_option maxHeartbeats 4000000
section
/-! BtSem: a small language of its own: data, expressions, statements, a big-step evaluator. Core Lean alone. -/
set_option autoImplicit false
namespace BT

/-- data: what a Python value says -/
inductive D where
  | non | bl (b : Bool) | int (i : Int) | str (s : List Nat)
  | tup (xs : List D) | lst (xs : List D)
  | obj (c : Nat) (fs : List D)
  | loc (l : Nat)
instance : Inhabited D := ⟨.non⟩

/-- the greatest length -/
abbrev LIM : Nat := 1000000

/-- an exception: its class, its fields -/
structure Exc where
  cls : Nat
  fs : List D

/-- the store: class and fields (each with its depth of ownership) -/
abbrev Sto := List (Nat × List (Nat × D))
structure S where
  env : List (Option (Nat × D))
  sto : Sto

/-- a value at hand: its own (k: how deep it may be changed; 0: frozen), or borrowed from a place -/
inductive EV where
  | own (k : Nat) (d : D)
  | bor (k : Nat) (d : D)
def EV.d : EV → D
  | .own _ d => d
  | .bor _ d => d

inductive Out (α : Type) where
  | ok (a : α) (s : S)
  | exc (x : Exc) (s : S)
  | err
def Out.bind {α β : Type} (o : Out α) (f : α → S → Out β) : Out β :=
  match o with
  | .ok a s => f a s
  | .exc x s => .exc x s
  | .err => .err
/-- a call's end -/
inductive CR where
  | ok (k : Nat) (d : D) (s : Sto)
  | exc (x : Exc) (s : Sto)
  | err
/-- a statement's end -/
inductive Fl where
  | next (s : S)
  | brk (s : S)
  | cont (s : S)
  | ret (k : Nat) (d : D) (s : Sto)
  | exc (x : Exc) (s : S)
  | err

def scal : D → Bool
  | .tup _ => false
  | .lst _ => false
  | .obj _ _ => false
  | _ => true

inductive BOp where
  | add | sub | mul | fdiv | mod | pow
inductive COp where
  | eq | ne | lt | le | gt | ge | is | isNot | isin | notin
/-- built-in types, for isinstance -/
inductive Ty where
  | int | bool | str | tuple | list
inductive BI where
  | len | int | abs | gcd | max2 | min2

mutual
inductive CE where
  | non | bl (b : Bool) | int (i : Int) | str (s : List Nat)
  | var (i : Nat) | bor (i : Nat) | mv (i : Nat)
  | bin (op : BOp) (a b : CE)
  | neg (a : CE)
  | cmp (op : COp) (a b : CE)
  | and (a b : CE) | or (a b : CE) | not (a : CE)
  | ife (c a b : CE)
  | tup (k : Nat) (es : CEs) | lst (k : Nat) (es : CEs)
  | idx (a i : CE)
  | call (f : Nat) (es : CEs)
  | bi (f : BI) (es : CEs)
  | isi (t : Ty) (a : CE)
  | cat (a b : CE)
inductive CEs where
  | nil | cons (e : CE) (es : CEs)
end

/-- what a for walks -/
inductive CI where
  | val (e : CE)
  | range1 (a : CE)
  | range2 (a b : CE)

/-- targets: slots -/
inductive Tg where
  | name (i : Nat)
  | tup (is : List Nat)

mutual
inductive CS where
  | pass | brk | cont
  | ret (e : CE) | retN
  | expr (e : CE)
  | asg (t : Tg) (e : CE)
  | par (i j : Nat) (a b : CE)
  | aug (i : Nat) (op : BOp) (e : CE)
  | app (i : Nat) (e : CE)
  | setI (i : Nat) (ix e : CE)
  | ifs (c : CE) (a b : CSs)
  | for (t : Tg) (it : CI) (b : CSs)
  | whl (c : CE) (b : CSs)
inductive CSs where
  | nil | cons (s : CS) (r : CSs)
end

/-! ### operations -/
/-- the int of an int or a bool -/
def b2i (b : Bool) : Int := if b then 1 else 0
mutual
/-- nothing but plain data -/
def plain : D → Bool
  | .tup xs => plainL xs
  | .lst xs => plainL xs
  | .obj _ _ => false
  | .loc _ => false
  | _ => true
def plainL : List D → Bool
  | [] => true
  | x :: xs => plain x && plainL xs
end
mutual
def dep : D → Nat
  | .tup xs => depL xs + 1
  | .lst xs => depL xs + 1
  | .obj _ xs => depL xs + 1
  | _ => 0
def depL : List D → Nat
  | [] => 0
  | x :: xs => max (dep x) (depL xs)
end
mutual
/-- plain, no list in it -/
def noL : D → Bool
  | .tup xs => noLL xs
  | .lst _ => false
  | .obj _ _ => false
  | .loc _ => false
  | _ => true
def noLL : List D → Bool
  | [] => true
  | x :: xs => noL x && noLL xs
end
def okD (d : D) : Bool := plain d && decide (dep d ≤ 100)
mutual
/-- == of plain data -/
def eqB : D → D → Bool
  | .non, .non => true
  | .bl a, .bl b => decide (a = b)
  | .int a, .int b => decide (a = b)
  | .bl a, .int b => decide (b2i a = b)
  | .int a, .bl b => decide (a = b2i b)
  | .str a, .str b => decide (a = b)
  | .tup a, .tup b => eqL a b
  | .lst a, .lst b => eqL a b
  | _, _ => false
def eqL : List D → List D → Bool
  | [], [] => true
  | x :: xs, y :: ys => eqB x y && eqL xs ys
  | _, _ => false
end
def eqD (a b : D) : Option Bool := if okD a && okD b then some (eqB a b) else none
def bitsOk (i j : Int) : Bool := decide (i.natAbs < 18446744073709551616) || decide (j.natAbs < 18446744073709551616) || decide (i.natAbs.log2 + j.natAbs.log2 < 1000000)
def binop : BOp → D → D → Option D
  | .add, .int i, .int j => some (.int (i + j))
  | .sub, .int i, .int j => some (.int (i - j))
  | .mul, .int i, .int j => if bitsOk i j then some (.int (i * j)) else none
  | .fdiv, .int i, .int j => if 0 < j ∧ j.natAbs.log2 < 9000 then some (.int (i / j)) else none
  | .mod, .int i, .int j => if 0 < j then some (.int (i % j)) else none
  | .pow, .int i, .int j => if 0 ≤ j ∧ j ≤ 1000 ∧ i.natAbs < 18446744073709551616 then some (.int (i ^ j.toNat)) else none
  | .add, .str a, .str b => if a.length + b.length ≤ LIM then some (.str (a ++ b)) else none
  | _, _, _ => none
/-- op= of scalars -/
def augop : BOp → D → D → Option D
  | .add, .int i, .int j => some (.int (i + j))
  | .sub, .int i, .int j => some (.int (i - j))
  | .add, .str a, .str b => if a.length + b.length ≤ LIM then some (.str (a ++ b)) else none
  | _, _, _ => none
/-- is, of None and bools on the right -/
def isD : D → D → Option Bool
  | .non, .non => some true
  | _, .non => some false
  | .bl a, .bl b => some (decide (a = b))
  | _, _ => none
def cmpop : COp → D → D → Option Bool
  | .eq, a, b => eqD a b
  | .ne, a, b => (eqD a b).map (!·)
  | .lt, .int i, .int j => some (decide (i < j))
  | .le, .int i, .int j => some (decide (i ≤ j))
  | .gt, .int i, .int j => some (decide (j < i))
  | .ge, .int i, .int j => some (decide (j ≤ i))
  | .is, a, b => isD a b
  | .isNot, a, b => (isD a b).map (!·)
  | _, _, _ => none
def truth : D → Option Bool
  | .non => some false
  | .bl b => some b
  | .int i => some (i != 0)
  | .str s => if s.length ≤ LIM then some (!s.isEmpty) else none
  | .tup xs => some (!xs.isEmpty)
  | .lst xs => some (!xs.isEmpty)
  | _ => none
/-- the place that an index means -/
def ixN (n : Nat) (i : Int) : Option Nat := if 0 ≤ i then (if i < n then some i.toNat else none) else if -(n : Int) ≤ i then some (i + n).toNat else none
def idxD : D → D → Option D
  | .tup xs, .int i => (ixN xs.length i).bind fun j => xs[j]?
  | .lst xs, .int i => (ixN xs.length i).bind fun j => xs[j]?
  | .str s, .int i => if s.length ≤ LIM then ((ixN s.length i).bind fun j => s[j]?).map fun c => .str [c] else none
  | _, _ => none
def isiD : Ty → D → Option Bool
  | _, .obj _ _ => none
  | _, .loc _ => none
  | .int, .int _ => some true
  | .int, .bl _ => some true
  | .bool, .bl _ => some true
  | .str, .str _ => some true
  | .tuple, .tup _ => some true
  | .list, .lst _ => some true
  | _, _ => some false
def biD : BI → List D → Option D
  | .len, [.str s] => if s.length ≤ LIM then some (.int s.length) else none
  | .len, [.tup xs] => some (.int xs.length)
  | .len, [.lst xs] => some (.int xs.length)
  | .int, [.int i] => some (.int i)
  | .int, [.bl b] => some (.int (b2i b))
  | .abs, [.int i] => some (.int (if i < 0 then -i else i))
  | .gcd, [.int a, .int b] => some (.int (Nat.gcd a.natAbs b.natAbs : Nat))
  | .max2, [.int i, .int j] => some (.int (if j > i then j else i))
  | .min2, [.int i, .int j] => some (.int (if j < i then j else i))
  | _, _ => none

/-! ### the evaluator -/
/-- kept: only what is its own -/
def share (o : Out EV) (f : Nat → D → S → Out EV) : Out EV := o.bind fun e s => match e with
  | .own k d => f k d s
  | .bor _ _ => .err
def lift (o : Option D) (s : S) : Out EV := match o with
  | some d => .ok (.own 0 d) s
  | none => .err
def liftB (o : Option Bool) (s : S) : Out EV := match o with
  | some b => .ok (.own 0 (.bl b)) s
  | none => .err
/-- may it be handed on for good? -/
def EV.free : EV → Bool
  | .own _ _ => true
  | .bor k d => scal d || k == 0
/-- may its items be taken for good? -/
def EV.sees : EV → Bool
  | .own _ _ => true
  | .bor k _ => decide (k ≤ 1)
/-- an item of depth j fits into a place of depth k -/
def fit (k j : Nat) (d : D) : Bool := scal d || k == 0 || k == j
def EV.fit (k : Nat) : EV → Bool
  | .own j d => BT.fit k j d
  | .bor _ d => scal d

mutual
def evalE (C : Nat → List D → Sto → CR) : CE → S → Out EV
  | .non, s => .ok (.own 0 .non) s
  | .bl b, s => .ok (.own 0 (.bl b)) s
  | .int i, s => .ok (.own 0 (.int i)) s
  | .str x, s => .ok (.own 0 (.str x)) s
  | .var i, s => match s.env[i]? with
    | some (some (_, d)) => .ok (.own 0 d) { s with env := s.env.set i (some (0, d)) }
    | _ => .err
  | .bor i, s => match s.env[i]? with
    | some (some (k, d)) => .ok (.bor k d) s
    | _ => .err
  | .mv i, s => match s.env[i]? with
    | some (some (k, d)) => .ok (.own k d) { s with env := s.env.set i none }
    | _ => .err
  | .bin op a b, s => (evalE C a s).bind fun x s1 => (evalE C b s1).bind fun y s2 => lift (binop op x.d y.d) s2
  | .neg a, s => (evalE C a s).bind fun x s1 => match x.d with
    | .int i => .ok (.own 0 (.int (-i))) s1
    | _ => .err
  | .cmp op a b, s => (evalE C a s).bind fun x s1 => (evalE C b s1).bind fun y s2 => liftB (cmpop op x.d y.d) s2
  | .and a b, s => (evalE C a s).bind fun x s1 => match truth x.d with
    | some true => evalE C b s1
    | some false => .ok x s1
    | none => .err
  | .or a b, s => (evalE C a s).bind fun x s1 => match truth x.d with
    | some true => .ok x s1
    | some false => evalE C b s1
    | none => .err
  | .not a, s => (evalE C a s).bind fun x s1 => liftB ((truth x.d).map (!·)) s1
  | .ife c a b, s => (evalE C c s).bind fun x s1 => match truth x.d with
    | some true => evalE C a s1
    | some false => evalE C b s1
    | none => .err
  | .tup k es, s => (evalEs C es s).bind fun xs s1 => match k with
    | 0 => .err
    | k + 1 => if xs.all (EV.fit k) && decide (xs.length ≤ LIM) then .ok (.own (k + 1) (.tup (xs.map EV.d))) s1 else .err
  | .lst k es, s => (evalEs C es s).bind fun xs s1 => match k with
    | 0 => .err
    | k + 1 => if xs.all (EV.fit k) && decide (xs.length ≤ LIM) then .ok (.own (k + 1) (.lst (xs.map EV.d))) s1 else .err
  | .idx a i, s => (evalE C a s).bind fun x s1 => (evalE C i s1).bind fun y s2 => match idxD x.d y.d with
    | some d => if scal d then .ok (.own 0 d) s2 else match x with
      | .own k _ => .ok (.own (k - 1) d) s2
      | .bor k _ => if k ≤ 1 then .ok (.own 0 d) s2 else .ok (.bor (k - 1) d) s2
    | none => .err
  | .call f es, s => (evalEs C es s).bind fun xs s1 => if xs.all EV.free then (match C f (xs.map EV.d) s1.sto with
    | .ok k d sto => .ok (.own k d) { s1 with sto := sto }
    | .exc x sto => .exc x { s1 with sto := sto }
    | .err => .err) else if xs.all (fun e => plain e.d) then (match C f (xs.map EV.d) [] with
    | .ok k d _ => if noL d then .ok (.own 0 d) s1 else (match k, d with
      | 1, .lst ds => if noLL ds then .ok (.own 1 (.lst ds)) s1 else .err
      | _, _ => .err)
    | _ => .err) else .err
  | .bi f es, s => (evalEs C es s).bind fun xs s1 => lift (biD f (xs.map EV.d)) s1
  | .isi t a, s => (evalE C a s).bind fun x s1 => liftB (isiD t x.d) s1
  | .cat a b, s => (evalE C a s).bind fun x s1 => (evalE C b s1).bind fun y s2 => match x.d, y.d with
    | .lst xs, .lst ys => if x.sees && (y.sees && decide (xs.length + ys.length ≤ LIM)) then .ok (.own 1 (.lst (xs ++ ys))) s2 else .err
    | _, _ => .err
def evalEs (C : Nat → List D → Sto → CR) : CEs → S → Out (List EV)
  | .nil, s => .ok [] s
  | .cons e es, s => (evalE C e s).bind fun x s1 => (evalEs C es s1).bind fun xs s2 => .ok (x :: xs) s2
end

/-- a test -/
def evalT (C : Nat → List D → Sto → CR) (c : CE) (s : S) : Out Bool := (evalE C c s).bind fun x s1 => match truth x.d with
  | some b => .ok b s1
  | none => .err

/-- a value into targets -/
def assign : Tg → Nat → D → S → Option S
  | .name i, k, d, s => if i < s.env.length then some { s with env := s.env.set i (some (k, d)) } else none
  | .tup is, k, .tup ds, s => if is.length = ds.length ∧ is.all (· < s.env.length) then some { s with env := (is.zip ds).foldl (fun env p => env.set p.1 (some (k - 1, p.2))) s.env } else none
  | .tup _, _, _, _ => none

/-- the items that a for walks -/
def evalI (C : Nat → List D → Sto → CR) : CI → S → Out (List D)
  | .val e, s => (evalE C e s).bind fun x s1 => match x with
    | .own _ (.lst xs) => .ok xs s1
    | .own _ (.tup xs) => .ok xs s1
    | .own _ (.str t) => .ok (t.map fun c => .str [c]) s1
    | _ => .err
  | .range1 a, s => (evalE C a s).bind fun x s1 => match x.d with
    | .int n => if n < 4611686018427387904 ∧ -4611686018427387904 ≤ n then .ok ((List.range n.toNat).map fun (i : Nat) => .int (i : Int)) s1 else .err
    | _ => .err
  | .range2 a b, s => (evalE C a s).bind fun x s1 => (evalE C b s1).bind fun y s2 => match x.d, y.d with
    | .int m, .int n => if n < 4611686018427387904 ∧ -4611686018427387904 ≤ n ∧ m < 4611686018427387904 ∧ -4611686018427387904 ≤ m then .ok ((List.range (n - m).toNat).map fun (i : Nat) => .int (m + (i : Int))) s2 else .err
    | _, _ => .err

/-- the turns of a for -/
def forL (step : D → S → Fl) : List D → S → Fl
  | [], s => .next s
  | d :: ds, s => match step d s with
    | .next s' => forL step ds s'
    | .cont s' => forL step ds s'
    | .brk s' => .next s'
    | r => r
/-- the turns of a while -/
def whileL (test : S → Out Bool) (body : S → Fl) : Nat → S → Fl
  | 0, _ => .err
  | n + 1, s => match test s with
    | .ok true s1 => match body s1 with
      | .next s' => whileL test body n s'
      | .cont s' => whileL test body n s'
      | .brk s' => .next s'
      | r => r
    | .ok false s1 => .next s1
    | .exc x s1 => .exc x s1
    | .err => .err
def Out.fl {α : Type} (o : Out α) (f : α → S → Fl) : Fl := match o with
  | .ok a s => f a s
  | .exc x s => .exc x s
  | .err => .err
def optFl (o : Option S) : Fl := match o with
  | some s => .next s
  | none => .err

mutual
def evalS (C : Nat → List D → Sto → CR) (W : Nat) : CS → S → Fl
  | .pass, s => .next s
  | .brk, s => .brk s
  | .cont, s => .cont s
  | .ret e, s => (evalE C e s).fl fun x s1 => match x with
    | .own k d => .ret k d s1.sto
    | .bor _ d => if scal d then .ret 0 d s1.sto else .err
  | .retN, s => .ret 0 .non s.sto
  | .expr e, s => (evalE C e s).fl fun _ s1 => .next s1
  | .asg t e, s => (evalE C e s).fl fun x s1 => match x with
    | .own k d => optFl (assign t k d s1)
    | .bor _ d => if scal d then optFl (assign t 0 d s1) else .err
  | .par i j a b, s => (evalEs C (.cons a (.cons b .nil)) s).fl fun xs s2 => match xs with
    | [.own k d, .own l e] => if i < s2.env.length ∧ j < s2.env.length then .next { s2 with env := (s2.env.set i (some (k, d))).set j (some (l, e)) } else .err
    | _ => .err
  | .aug i op e, s => match s.env[i]? with
    | some (some (_, x)) => if scal x then (evalE C e s).fl fun y s1 => match augop op x y.d with
      | some z => if i < s1.env.length then .next { s1 with env := s1.env.set i (some (0, z)) } else .err
      | none => .err
      else .err
    | _ => .err
  | .app i e, s => match s.env[i]? with
    | some (some (_, .lst _)) => (evalE C e s).fl fun x s1 => match s1.env[i]? with
      | some (some (k + 1, .lst xs)) => if x.fit k && decide (xs.length < LIM) then .next { s1 with env := s1.env.set i (some (k + 1, .lst (xs ++ [x.d]))) } else .err
      | _ => .err
    | _ => .err
  | .setI i ix e, s => (evalE C e s).fl fun x s1 => (evalE C ix s1).fl fun y s2 => match s2.env[i]?, y.d with
    | some (some (k + 1, .lst xs)), .int n => if x.fit k then (match ixN xs.length n with
      | some m => .next { s2 with env := s2.env.set i (some (k + 1, .lst (xs.set m x.d))) }
      | none => .err) else .err
    | _, _ => .err
  | .ifs c a b, s => (evalT C c s).fl fun t s1 => if t then evalSs C W a s1 else evalSs C W b s1
  | .for t it b, s => (evalI C it s).fl fun ds s1 => forL (fun d s2 => match assign t 0 d s2 with
    | some s3 => evalSs C W b s3
    | none => .err) ds s1
  | .whl c b, s => whileL (evalT C c) (evalSs C W b) W s
def evalSs (C : Nat → List D → Sto → CR) (W : Nat) : CSs → S → Fl
  | .nil, s => .next s
  | .cons a r, s => match evalS C W a s with
    | .next s' => evalSs C W r s'
    | f => f
end

/-- a def: the number of its slots (parameters first), its body -/
structure Fd where
  np : Nat
  ns : Nat
  body : CSs
/-- the end of a body as a call's end -/
def Fl.call : Fl → CR
  | .next s => .ok 0 .non s.sto
  | .ret k d s => .ok k d s
  | .exc x s => .exc x s.sto
  | _ => .err
/-- a call, n deep at most -/
def callF (T : Nat → Option Fd) (W : Nat) : Nat → Nat → List D → Sto → CR
  | 0, _, _, _ => .err
  | n + 1, f, ds, sto => match T f with
    | none => .err
    | some fd => if ds.length = fd.np ∧ fd.np ≤ fd.ns then
        (evalSs (callF T W n) W fd.body { env := (ds.map fun d => some (0, d)) ++ List.replicate (fd.ns - fd.np) none, sto := sto }).call
      else .err
end BT
end

section
/-! BtRep: what stands for what: data and the layer's values and heaps. -/
namespace BT
open PySem PySem.Spec L2
open PyProof.Rows hiding St
set_option autoImplicit false

/-- what the text's top has: the written part, the classes' addresses and fields -/
structure Tb where
  K : PySem.W.Frag
  cls : Nat → Option (Addr × List PySem.Str)
  exc : Nat → Option (Value × List PySem.Str)

/-- the heap without what somebody owns -/
noncomputable def hid (H : Hp) (P : Addr → Prop) : Hp := fun a => open Classical in if P a then none else H a
theorem hid_at {H : Hp} {P : Addr → Prop} {a : Addr} (h : ¬ P a) : hid H P a = H a := by unfold hid; rw [if_neg h]
theorem hid_no {H : Hp} {P : Addr → Prop} {a : Addr} (h : P a) : hid H P a = none := by unfold hid; rw [if_pos h]
theorem hid_some {H : Hp} {P : Addr → Prop} {a : Addr} {o : HO} (h : hid H P a = some o) : ¬ P a ∧ H a = some o := by
  by_cases p : P a
  · rw [hid_no p] at h; cases h
  · rw [hid_at p] at h; exact ⟨p, h⟩
theorem hid_le {H : Hp} {P : Addr → Prop} : Same (hid H P) H := fun a o h => (hid_some h).2
theorem hid_mono {H H' : Hp} {P P' : Addr → Prop} (hp : ∀ a o, H a = some o → ¬ P a → ¬ P' a ∧ H' a = some o) : Same (hid H P) (hid H' P') := fun a o h => by
  obtain ⟨p, e⟩ := hid_some h
  obtain ⟨p', e'⟩ := hp a o e p
  rw [hid_at p']; exact e'
theorem hid_less {H : Hp} {P P' : Addr → Prop} (hp : ∀ a, P' a → P a) : Same (hid H P) (hid H P') := hid_mono fun a o e p => ⟨fun q => p (hp a q), e⟩

theorem same_rd {H H' : Hp} {a : Addr} {u : HO} (e : Same H H') (h : Rd H a u) : Rd H' a u := by
  rcases h with h | ⟨o, h⟩
  · exact .inl (e a _ h)
  · exact .inr ⟨o, e a _ h⟩
theorem same_t {K : PySem.W.Frag} {H H' : Hp} {a : Addr} {xs : List V} (e : Same H H') (h : SqT K H a xs) : SqT K H' a xs := by
  rcases h with h | h
  · exact .inl (same_rd e h)
  · exact .inr h
theorem same_l {K : PySem.W.Frag} {H H' : Hp} {a : Addr} {xs : List V} (e : Same H H') (h : SqL K H a xs) : SqL K H' a xs := by
  rcases h with h | h
  · exact .inl (same_rd e h)
  · exact .inr h

/-- a text's value -/
abbrev sv (s : List Nat) : PySem.Str := ⟨s.toArray⟩

section
variable (T : Tb) (ρ : List Addr) (Φ : Hp)
mutual
/-- frozen data -/
inductive Rp : D → V → Prop where
  | non : Rp .non .non
  | bl (b : Bool) : Rp (.bl b) (.bl b)
  | int (i : Int) : Rp (.int i) (.int i)
  | str (s : List Nat) : s.all (· < 1114112) = true → Rp (.str s) (.str (sv s))
  | tup {ds : List D} {a : Addr} {vs : List V} : SqT T.K Φ a vs → RpL ds vs → Rp (.tup ds) (.ref a)
  | lst {ds : List D} {a : Addr} {vs : List V} : SqL T.K Φ a vs → RpL ds vs → Rp (.lst ds) (.ref a)
  | obj {c : Nat} {ds : List D} {a C dx : Addr} {ns : List PySem.Str} {vs : List V} : T.cls c = some (C, ns) → ns.length = vs.length → Φ a = some (.ins C dx (ns.zip vs)) → RpL ds vs → Rp (.obj c ds) (.ref a)
  | loc {l : Nat} {a : Addr} : ρ[l]? = some a → Rp (.loc l) (.ref a)
inductive RpL : List D → List V → Prop where
  | nil : RpL [] []
  | cons {d : D} {v : V} {ds : List D} {vs : List V} : Rp d v → RpL ds vs → RpL (d :: ds) (v :: vs)
end
end
section
variable {T : Tb} {ρ ρ' : List Addr} {Φ Φ' : Hp}
mutual
theorem Rp.mono (e : Same Φ Φ') (p : ρ <+: ρ') : ∀ {d : D} {v : V}, Rp T ρ Φ d v → Rp T ρ' Φ' d v
  | _, _, .non => .non
  | _, _, .bl b => .bl b
  | _, _, .int i => .int i
  | _, _, .str s h => .str s h
  | _, _, .tup h l => .tup (same_t e h) (RpL.mono e p l)
  | _, _, .lst h l => .lst (same_l e h) (RpL.mono e p l)
  | _, _, .obj h n x l => .obj h n (e _ _ x) (RpL.mono e p l)
  | _, _, .loc h => .loc (by obtain ⟨t, rfl⟩ := p; rw [List.getElem?_append_left (List.getElem?_eq_some_iff.mp h).1]; exact h)
theorem RpL.mono (e : Same Φ Φ') (p : ρ <+: ρ') : ∀ {ds : List D} {vs : List V}, RpL T ρ Φ ds vs → RpL T ρ' Φ' ds vs
  | _, _, .nil => .nil
  | _, _, .cons h l => .cons (Rp.mono e p h) (RpL.mono e p l)
end
theorem RpL.len : ∀ {ds : List D} {vs : List V}, RpL T ρ Φ ds vs → ds.length = vs.length
  | _, _, .nil => rfl
  | _, _, .cons _ l => by rw [List.length_cons, List.length_cons, RpL.len l]
theorem RpL.get : ∀ {ds : List D} {vs : List V} {i : Nat} {d : D}, RpL T ρ Φ ds vs → ds[i]? = some d → ∃ v, vs[i]? = some v ∧ Rp T ρ Φ d v
  | _, _, _, _, .nil, e => by simp at e
  | _, _, 0, d, .cons h _, e => by simp at e; subst e; exact ⟨_, rfl, h⟩
  | _, _, i + 1, d, .cons _ l, e => by
    obtain ⟨v, h1, h2⟩ := RpL.get (i := i) l (by simpa using e)
    exact ⟨v, by simpa using h1, h2⟩
theorem RpL.app : ∀ {ds es : List D} {vs ws : List V}, RpL T ρ Φ ds vs → RpL T ρ Φ es ws → RpL T ρ Φ (ds ++ es) (vs ++ ws)
  | _, _, _, _, .nil, q => q
  | _, _, _, _, .cons h l, q => .cons h (RpL.app l q)
theorem RpL.set {d : D} {v : V} (r : Rp T ρ Φ d v) : ∀ {ds : List D} {vs : List V} (i : Nat), RpL T ρ Φ ds vs → RpL T ρ Φ (ds.set i d) (vs.set i v)
  | _, _, _, .nil => .nil
  | _, _, 0, .cons _ t => .cons r t
  | _, _, i + 1, .cons q t => .cons q (RpL.set r i t)
/-- scalars ask nothing of the heap -/
theorem Rp.scal {Φ2 : Hp} {d : D} {v : V} (h : Rp T ρ Φ d v) (s : scal d = true) : Rp T ρ Φ2 d v := by
  cases h with
  | non => exact .non
  | bl b => exact .bl b
  | int i => exact .int i
  | str x h => exact .str x h
  | tup _ _ => cases s
  | lst _ _ => cases s
  | obj _ _ _ _ => cases s
  | loc h => exact .loc h
theorem Rp.int' {i : Int} {v : V} (h : Rp T ρ Φ (.int i) v) : v = .int i := by cases h; rfl
theorem Rp.bl' {b : Bool} {v : V} (h : Rp T ρ Φ (.bl b) v) : v = .bl b := by cases h; rfl
theorem Rp.non' {v : V} (h : Rp T ρ Φ .non v) : v = .non := by cases h; rfl
theorem Rp.str' {s : List Nat} {v : V} (h : Rp T ρ Φ (.str s) v) : v = .str (sv s) := by cases h; rfl
theorem Rp.tup' {ds : List D} {v : V} (h : Rp T ρ Φ (.tup ds) v) : ∃ a vs, v = .ref a ∧ SqT T.K Φ a vs ∧ RpL T ρ Φ ds vs := by cases h with | tup h l => exact ⟨_, _, rfl, h, l⟩
theorem Rp.lst' {ds : List D} {v : V} (h : Rp T ρ Φ (.lst ds) v) : ∃ a vs, v = .ref a ∧ SqL T.K Φ a vs ∧ RpL T ρ Φ ds vs := by cases h with | lst h l => exact ⟨_, _, rfl, h, l⟩
end

/-! ### what may be changed -/
section
variable (T : Tb) (ρ : List Addr) (Φ H : Hp)
mutual
/-- d stands at v, changeable k deep; the addresses that this owns -/
inductive RpK : Nat → D → V → List Addr → Prop where
  | sc {k : Nat} {d : D} {v : V} : scal d = true → Rp T ρ Φ d v → RpK k d v []
  | frz {d : D} {v : V} : Rp T ρ Φ d v → RpK 0 d v []
  | tup {k : Nat} {ds : List D} {a : Addr} {vs : List V} {o : List Addr} : SqT T.K Φ a vs → RpKL k ds vs o → RpK (k + 1) (.tup ds) (.ref a) o
  | lst {k : Nat} {ds : List D} {a : Addr} {vs : List V} {o : List Addr} : H a = some (.lst vs) → RpKL k ds vs o → RpK (k + 1) (.lst ds) (.ref a) (a :: o)
inductive RpKL : Nat → List D → List V → List Addr → Prop where
  | nil {k : Nat} : RpKL k [] [] []
  | cons {k : Nat} {d : D} {v : V} {ds : List D} {vs : List V} {o o' : List Addr} : RpK k d v o → RpKL k ds vs o' → RpKL k (d :: ds) (v :: vs) (o ++ o')
end
end
section
variable {T : Tb} {ρ ρ' : List Addr} {Φ Φ' H H' : Hp}
mutual
theorem RpK.mono (e : Same Φ Φ') (p : ρ <+: ρ') : ∀ {k : Nat} {d : D} {v : V} {o : List Addr}, (∀ a ∈ o, ∀ u, H a = some u → H' a = some u) → RpK T ρ Φ H k d v o → RpK T ρ' Φ' H' k d v o
  | _, _, _, _, _, .sc s h => .sc s (h.mono e p)
  | _, _, _, _, _, .frz h => .frz (h.mono e p)
  | _, _, _, _, q, .tup h l => .tup (same_t e h) (RpKL.mono e p q l)
  | _, _, _, _, q, .lst h l => .lst (q _ List.mem_cons_self _ h) (RpKL.mono e p (fun a m => q a (List.mem_cons_of_mem _ m)) l)
theorem RpKL.mono (e : Same Φ Φ') (p : ρ <+: ρ') : ∀ {k : Nat} {ds : List D} {vs : List V} {o : List Addr}, (∀ a ∈ o, ∀ u, H a = some u → H' a = some u) → RpKL T ρ Φ H k ds vs o → RpKL T ρ' Φ' H' k ds vs o
  | _, _, _, _, _, .nil => .nil
  | _, _, _, _, q, .cons h l => .cons (RpK.mono e p (fun a m => q a (List.mem_append_left _ m)) h) (RpKL.mono e p (fun a m => q a (List.mem_append_right _ m)) l)
end
mutual
/-- what is owned is given up: then it is frozen data of a heap that shows it -/
theorem RpK.freeze (e : Same Φ Φ') (p : ρ <+: ρ') : ∀ {k : Nat} {d : D} {v : V} {o : List Addr}, (∀ a ∈ o, ∀ u, H a = some u → Φ' a = some u) → RpK T ρ Φ H k d v o → Rp T ρ' Φ' d v
  | _, _, _, _, _, .sc s h => h.mono e p
  | _, _, _, _, _, .frz h => h.mono e p
  | _, _, _, _, q, .tup h l => .tup (same_t e h) (RpKL.freeze e p q l)
  | _, _, _, _, q, .lst h l => .lst (.inl (.inl (q _ List.mem_cons_self _ h))) (RpKL.freeze e p (fun a m => q a (List.mem_cons_of_mem _ m)) l)
theorem RpKL.freeze (e : Same Φ Φ') (p : ρ <+: ρ') : ∀ {k : Nat} {ds : List D} {vs : List V} {o : List Addr}, (∀ a ∈ o, ∀ u, H a = some u → Φ' a = some u) → RpKL T ρ Φ H k ds vs o → RpL T ρ' Φ' ds vs
  | _, _, _, _, _, .nil => .nil
  | _, _, _, _, q, .cons h l => .cons (RpK.freeze e p (fun a m => q a (List.mem_append_left _ m)) h) (RpKL.freeze e p (fun a m => q a (List.mem_append_right _ m)) l)
end
/-- seen -/
theorem RpK.see {k : Nat} {d : D} {v : V} {o : List Addr} (h : RpK T ρ Φ H k d v o) (e : Same Φ H) : Rp T ρ H d v := h.freeze e (List.prefix_refl _) fun _ _ _ q => q
mutual
theorem RpK.there : ∀ {k : Nat} {d : D} {v : V} {o : List Addr}, RpK T ρ Φ H k d v o → ∀ a ∈ o, ∃ vs, H a = some (.lst vs)
  | _, _, _, _, .sc _ _, a, m => by simp at m
  | _, _, _, _, .frz _, a, m => by simp at m
  | _, _, _, _, .tup _ l, a, m => RpKL.there l a m
  | _, _, _, _, .lst h l, a, m => by
    rcases List.mem_cons.mp m with rfl | m
    · exact ⟨_, h⟩
    · exact RpKL.there l a m
theorem RpKL.there : ∀ {k : Nat} {ds : List D} {vs : List V} {o : List Addr}, RpKL T ρ Φ H k ds vs o → ∀ a ∈ o, ∃ vs, H a = some (.lst vs)
  | _, _, _, _, .nil, a, m => by simp at m
  | _, _, _, _, .cons h l, a, m => by
    rcases List.mem_append.mp m with m | m
    · exact RpK.there h a m
    · exact RpKL.there l a m
end
theorem RpKL.len : ∀ {k : Nat} {ds : List D} {vs : List V} {o : List Addr}, RpKL T ρ Φ H k ds vs o → ds.length = vs.length
  | _, _, _, _, .nil => rfl
  | _, _, _, _, .cons _ l => by rw [List.length_cons, List.length_cons, RpKL.len l]
/-- at depth 0 nothing is owned -/
theorem RpK.zero {d : D} {v : V} {o : List Addr} (h : RpK T ρ Φ H 0 d v o) : o = [] ∧ Rp T ρ Φ d v := by
  cases h with
  | sc s h => exact ⟨rfl, h⟩
  | frz h => exact ⟨rfl, h⟩
theorem RpK.scal {k : Nat} {d : D} {v : V} {o : List Addr} (h : RpK T ρ Φ H k d v o) (s : scal d = true) : o = [] ∧ Rp T ρ Φ d v := by
  cases h with
  | sc s h => exact ⟨rfl, h⟩
  | frz h => exact ⟨rfl, h⟩
  | tup _ _ => cases s
  | lst _ _ => cases s
theorem RpK.ofScal {k : Nat} {d : D} {v : V} (h : Rp T ρ Φ d v) (s : BT.scal d = true) : RpK T ρ Φ H k d v [] := .sc s h
theorem RpKL.zero : ∀ {ds : List D} {vs : List V} {o : List Addr}, RpKL T ρ Φ H 0 ds vs o → o = [] ∧ RpL T ρ Φ ds vs
  | _, _, _, .nil => ⟨rfl, .nil⟩
  | _, _, _, .cons h l => by
    obtain ⟨rfl, h'⟩ := h.zero
    obtain ⟨rfl, l'⟩ := RpKL.zero l
    exact ⟨rfl, .cons h' l'⟩
theorem RpKL.ofL : ∀ {ds : List D} {vs : List V}, RpL T ρ Φ ds vs → RpKL T ρ Φ H 0 ds vs []
  | _, _, .nil => .nil
  | _, _, .cons h l => by
    have q := RpKL.cons (H := H) (.frz h) (RpKL.ofL l)
    simpa using q
theorem RpKL.get : ∀ {k : Nat} {ds : List D} {vs : List V} {o : List Addr} {i : Nat} {d : D}, RpKL T ρ Φ H k ds vs o → ds[i]? = some d → ∃ v o1, vs[i]? = some v ∧ RpK T ρ Φ H k d v o1 ∧ o1.Sublist o
  | _, _, _, _, _, _, .nil, e => by simp at e
  | _, _, _, _, 0, d, .cons h _, e => by simp at e; subst e; exact ⟨_, _, rfl, h, List.sublist_append_left _ _⟩
  | _, _, _, _, i + 1, d, .cons _ l, e => by
    obtain ⟨v, o1, h1, h2, h3⟩ := RpKL.get (i := i) l (by simpa using e)
    exact ⟨v, o1, by simpa using h1, h2, h3.trans (List.sublist_append_right _ _)⟩
theorem RpKL.app : ∀ {k : Nat} {ds es : List D} {vs ws : List V} {o p : List Addr}, RpKL T ρ Φ H k ds vs o → RpKL T ρ Φ H k es ws p → RpKL T ρ Φ H k (ds ++ es) (vs ++ ws) (o ++ p)
  | _, _, _, _, _, _, _, .nil, q => q
  | _, _, _, _, _, _, _, .cons h l, q => by
    rw [List.append_assoc]
    exact .cons h (RpKL.app l q)
/-- an item is exchanged -/
theorem RpKL.set {k : Nat} {d : D} {v : V} {o1 : List Addr} (r : RpK T ρ Φ H k d v o1) : ∀ {ds : List D} {vs : List V} {o : List Addr} (i : Nat), i < ds.length → RpKL T ρ Φ H k ds vs o →
    ∃ p q m, o = p ++ m ++ q ∧ RpKL T ρ Φ H k (ds.set i d) (vs.set i v) (p ++ o1 ++ q)
  | _, _, _, i, hi, .nil => by simp at hi
  | _, _, _, 0, _, .cons (o := a) (o' := b) _ t => ⟨[], b, a, by simp, by simpa using RpKL.cons r t⟩
  | _, _, _, i + 1, hi, .cons (o := a) (o' := b) q t => by
    obtain ⟨p, q', m, e, h⟩ := RpKL.set r i (by simpa using hi) t
    exact ⟨a ++ p, q', m, by rw [e]; simp [List.append_assoc], by
      have := RpKL.cons q h
      simpa [List.append_assoc] using this⟩
end
end BT
end

section
/-! BtState: the state of the small language against the layer's slots and heap; what an evaluation may do to them. -/
namespace BT
open PySem PySem.Spec L2
open PyProof.Rows hiding St
set_option autoImplicit false

/-- owned: by somebody outside, or here -/
def Own (OX : Addr → Prop) (l : List Addr) : Addr → Prop := fun a => OX a ∨ a ∈ l
section
variable (T : Tb) (ρ : List Addr) (Φ H : Hp)
/-- the slots -/
inductive RpE : List (Option (Nat × D)) → St → List Addr → Prop where
  | nil : RpE [] [] []
  | no {x : Option V} {env : List (Option (Nat × D))} {σ : St} {o : List Addr} : RpE env σ o → RpE (none :: env) (x :: σ) o
  | yes {k : Nat} {d : D} {v : V} {env : List (Option (Nat × D))} {σ : St} {o1 o : List Addr} : RpK T ρ Φ H k d v o1 → RpE env σ o → RpE (some (k, d) :: env) (some v :: σ) (o1 ++ o)
/-- fields -/
inductive RpF : List (Nat × D) → List V → List Addr → Prop where
  | nil : RpF [] [] []
  | cons {k : Nat} {d : D} {v : V} {fs : List (Nat × D)} {vs : List V} {o1 o : List Addr} : RpK T ρ Φ H k d v o1 → RpF fs vs o → RpF ((k, d) :: fs) (v :: vs) (o1 ++ o)
/-- the store's cells -/
inductive RpS : Sto → List Addr → List Addr → Prop where
  | nil : RpS [] [] []
  | cons {c : Nat} {fs : List (Nat × D)} {a C dx : Addr} {ns : List PySem.Str} {vs : List V} {o1 o : List Addr} {sto : Sto} {as : List Addr} :
      T.cls c = some (C, ns) → ns.length = vs.length → H a = some (.ins C dx (ns.zip vs)) → RpF T ρ Φ H fs vs o1 → RpS sto as o → RpS ((c, fs) :: sto) (a :: as) (a :: (o1 ++ o))
end
section
variable {T : Tb} {ρ ρ' : List Addr} {Φ Φ' H H' : Hp}
theorem RpE.len : ∀ {env : List (Option (Nat × D))} {σ : St} {o : List Addr}, RpE T ρ Φ H env σ o → env.length = σ.length
  | _, _, _, .nil => rfl
  | _, _, _, .no q => by rw [List.length_cons, List.length_cons, RpE.len q]
  | _, _, _, .yes _ q => by rw [List.length_cons, List.length_cons, RpE.len q]
theorem RpE.mono (e : Same Φ Φ') (p : ρ <+: ρ') : ∀ {env : List (Option (Nat × D))} {σ : St} {o : List Addr}, (∀ a ∈ o, ∀ u, H a = some u → H' a = some u) → RpE T ρ Φ H env σ o → RpE T ρ' Φ' H' env σ o
  | _, _, _, _, .nil => .nil
  | _, _, _, q, .no r => .no (RpE.mono e p q r)
  | _, _, _, q, .yes h r => .yes (h.mono e p fun a m => q a (List.mem_append_left _ m)) (RpE.mono e p (fun a m => q a (List.mem_append_right _ m)) r)
theorem RpF.mono (e : Same Φ Φ') (p : ρ <+: ρ') : ∀ {fs : List (Nat × D)} {vs : List V} {o : List Addr}, (∀ a ∈ o, ∀ u, H a = some u → H' a = some u) → RpF T ρ Φ H fs vs o → RpF T ρ' Φ' H' fs vs o
  | _, _, _, _, .nil => .nil
  | _, _, _, q, .cons h r => .cons (h.mono e p fun a m => q a (List.mem_append_left _ m)) (RpF.mono e p (fun a m => q a (List.mem_append_right _ m)) r)
theorem RpS.mono (e : Same Φ Φ') (p : ρ <+: ρ') : ∀ {sto : Sto} {as : List Addr} {o : List Addr}, (∀ a ∈ o, ∀ u, H a = some u → H' a = some u) → RpS T ρ Φ H sto as o → RpS T ρ' Φ' H' sto as o
  | _, _, _, _, .nil => .nil
  | _, _, _, q, .cons h1 h2 h3 h4 r => .cons h1 h2 (q _ List.mem_cons_self _ h3) (h4.mono e p fun a m => q a (List.mem_cons_of_mem _ (List.mem_append_left _ m)))
      (RpS.mono e p (fun a m => q a (List.mem_cons_of_mem _ (List.mem_append_right _ m))) r)
/-- a slot's value, and the slot stored anew -/
theorem RpE.split : ∀ {env : List (Option (Nat × D))} {σ : St} {o : List Addr} {i k : Nat} {d : D}, RpE T ρ Φ H env σ o → env[i]? = some (some (k, d)) →
    ∃ v p m q, o = p ++ m ++ q ∧ σ[i]? = some (some v) ∧ RpK T ρ Φ H k d v m ∧
      (∀ {ρ' : List Addr} {Φ' H' : Hp}, Same Φ Φ' → ρ <+: ρ' → (∀ a ∈ p ++ q, ∀ u, H a = some u → H' a = some u) → ∀ k' d' v' m', RpK T ρ' Φ' H' k' d' v' m' → RpE T ρ' Φ' H' (env.set i (some (k', d'))) (σ.set i (some v')) (p ++ m' ++ q)) ∧
      (∀ {ρ' : List Addr} {Φ' H' : Hp}, Same Φ Φ' → ρ <+: ρ' → (∀ a ∈ p ++ q, ∀ u, H a = some u → H' a = some u) → RpE T ρ' Φ' H' (env.set i none) σ (p ++ q))
  | _, _, _, _, _, _, .nil, e => by simp at e
  | _, _, _, 0, _, _, .no _, e => by simp at e
  | _, _, _, 0, k, d, .yes (o1 := o1) (o := o) h r, e => by
    simp only [List.getElem?_cons_zero, Option.some.injEq, Prod.mk.injEq] at e
    obtain ⟨rfl, rfl⟩ := e
    exact ⟨_, [], o1, o, by simp, rfl, h, fun e' p' q' k' d' v' m' r' => by simpa using RpE.yes r' (r.mono e' p' fun a m => q' a (by simpa using m)), fun e' p' q' => by simpa using RpE.no (x := some _) (r.mono e' p' fun a m => q' a (by simpa using m))⟩
  | _, _, _, i + 1, k, d, .no r, e => by
    obtain ⟨v, p, m, q, h1, h2, h3, h4, h5⟩ := RpE.split (i := i) r (by simpa using e)
    exact ⟨v, p, m, q, h1, by simpa using h2, h3, fun e' p' q' k' d' v' m' r' => .no (h4 e' p' q' k' d' v' m' r'), fun e' p' q' => .no (h5 e' p' q')⟩
  | _, _, _, i + 1, k, d, .yes (o1 := o1) h r, e => by
    obtain ⟨v, p, m, q, h1, h2, h3, h4, h5⟩ := RpE.split (i := i) r (by simpa using e)
    refine ⟨v, o1 ++ p, m, q, by rw [h1]; simp [List.append_assoc], by simpa using h2, h3, fun e' p' q' k' d' v' m' r' => ?_, fun e' p' q' => ?_⟩
    · have z := RpE.yes (h.mono e' p' fun a ma => q' a (by simp [ma])) (h4 e' p' (fun a ma => q' a (by simp at ma ⊢; rcases ma with ma | ma <;> simp [ma])) k' d' v' m' r')
      simpa [List.append_assoc] using z
    · have z := RpE.yes (h.mono e' p' fun a ma => q' a (by simp [ma])) (h5 e' p' (fun a ma => q' a (by simp at ma ⊢; rcases ma with ma | ma <;> simp [ma])))
      simpa [List.append_assoc] using z
/-- a slot stored, whatever stood there -/
theorem RpE.put : ∀ {env : List (Option (Nat × D))} {σ : St} {o : List Addr} {i : Nat}, RpE T ρ Φ H env σ o → i < env.length →
    ∃ p m q, o = p ++ m ++ q ∧
      (∀ {ρ' : List Addr} {Φ' H' : Hp}, Same Φ Φ' → ρ <+: ρ' → (∀ a ∈ p ++ q, ∀ u, H a = some u → H' a = some u) → ∀ k' d' v' m', RpK T ρ' Φ' H' k' d' v' m' → RpE T ρ' Φ' H' (env.set i (some (k', d'))) (σ.set i (some v')) (p ++ m' ++ q))
  | _, _, _, _, .nil, e => by simp at e
  | _, _, _, 0, .no (o := o) r, _ => ⟨[], [], o, by simp, fun e' p' q' k' d' v' m' r' => by simpa using RpE.yes r' (r.mono e' p' fun a m => q' a (by simpa using m))⟩
  | _, _, _, 0, .yes (o1 := o1) (o := o) h r, _ => ⟨[], o1, o, by simp, fun e' p' q' k' d' v' m' r' => by simpa using RpE.yes r' (r.mono e' p' fun a m => q' a (by simpa using m))⟩
  | _, _, _, i + 1, .no r, e => by
    obtain ⟨p, m, q, h1, h4⟩ := RpE.put (i := i) r (by simpa using e)
    exact ⟨p, m, q, h1, fun e' p' q' k' d' v' m' r' => .no (h4 e' p' q' k' d' v' m' r')⟩
  | _, _, _, i + 1, .yes (o1 := o1) h r, e => by
    obtain ⟨p, m, q, h1, h4⟩ := RpE.put (i := i) r (by simpa using e)
    refine ⟨o1 ++ p, m, q, by rw [h1]; simp [List.append_assoc], fun e' p' q' k' d' v' m' r' => ?_⟩
    have z := RpE.yes (h.mono e' p' fun a ma => q' a (by simp [ma])) (h4 e' p' (fun a ma => q' a (by simp at ma ⊢; rcases ma with ma | ma <;> simp [ma])) k' d' v' m' r')
    simpa [List.append_assoc] using z
/-- the slots as they stand at a def's entry -/
theorem RpE.entry : ∀ {ds : List D} {vs : List V} (n : Nat), RpL T ρ Φ ds vs → RpE T ρ Φ H ((ds.map fun d => some (0, d)) ++ List.replicate n none) (vs.map some ++ List.replicate n none) []
  | _, _, 0, .nil => .nil
  | _, _, n + 1, .nil => by
    have q := RpE.entry n (RpL.nil (T := T) (ρ := ρ) (Φ := Φ))
    simpa [List.replicate_succ] using RpE.no (x := none) q
  | _, _, n, .cons h l => by
    have q := RpE.entry n l
    simpa using RpE.yes (.frz h) q
end

/-- tuples, and what is frozen: never owned -/
def isT : HO → Bool
  | .tup _ => true
  | .frz _ _ => true
  | _ => false
def Nt (H : Hp) (a : Addr) : Prop := ∃ u, H a = some u ∧ isT u = false
theorem Nt.ex {H : Hp} {a : Addr} (h : Nt H a) : ∃ u, H a = some u := h.imp fun _ q => q.1
theorem Nt.mono {H H' : Hp} (e : Same H H') {a : Addr} (h : Nt H a) : Nt H' a := h.imp fun u q => ⟨e a u q.1, q.2⟩
theorem Nt.lst {H : Hp} {a : Addr} (h : ∃ vs, H a = some (.lst vs)) : Nt H a := h.elim fun _ q => ⟨_, q, rfl⟩
/-- what an evaluation may do: own' what is owned behind it (the temporary one among it) -/
structure Adv (H : Hp) (own sown : List Addr) (H' : Hp) (own' sown' : List Addr) : Prop where
  same : ∀ a u, H a = some u → a ∉ sown → H' a = some u
  there : ∀ a u, H a = some u → ∃ u', H' a = some u'
  nt : ∀ a, Nt H a → Nt H' a
  sub : ∀ a ∈ own', a ∈ own ∨ H a = none
  ssub : ∀ a ∈ sown', a ∈ sown ∨ H a = none
theorem Adv.gone {H H' : Hp} {own sown own' sown' : List Addr} (A : Adv H own sown H' own' sown') {a : Addr} (h : H' a = none) : H a = none := by
  cases e : H a with
  | none => rfl
  | some u => obtain ⟨u', q⟩ := A.there a u e; rw [h] at q; cases q
theorem Adv.refl (H : Hp) (own sown : List Addr) : Adv H own sown H own sown := ⟨fun _ _ h _ => h, fun _ u h => ⟨u, h⟩, fun _ h => h, fun _ h => .inl h, fun _ h => .inl h⟩
theorem Adv.trans {H H1 H2 : Hp} {own sown own1 sown1 own2 sown2 : List Addr} (A : Adv H own sown H1 own1 sown1) (B : Adv H1 own1 sown1 H2 own2 sown2) : Adv H own sown H2 own2 sown2 where
  same := fun a u h n => by
    refine B.same a u (A.same a u h n) fun m => ?_
    rcases A.ssub a m with q | q
    · exact n q
    · rw [h] at q; cases q
  there := fun a u h => by
    obtain ⟨u', h'⟩ := A.there a u h
    exact B.there a u' h'
  nt := fun a h => B.nt a (A.nt a h)
  sub := fun a m => by
    rcases B.sub a m with q | q
    · exact A.sub a q
    · exact .inr (A.gone q)
  ssub := fun a m => by
    rcases B.ssub a m with q | q
    · exact A.ssub a q
    · exact .inr (A.gone q)
theorem Adv.less {H H' : Hp} {own sown own' sown' own'' : List Addr} (A : Adv H own sown H' own' sown') (h : ∀ a ∈ own'', a ∈ own') : Adv H own sown H' own'' sown' := ⟨A.same, A.there, A.nt, fun a m => A.sub a (h a m), A.ssub⟩

/-- the state s of the small language stands at the slots σ and the heap H; H0: the heap at the def's entry -/
structure Rst (T : Tb) (OX : Addr → Prop) (H0 : Hp) (so0 ρ : List Addr) (H : Hp) (s : S) (σ : St) (own sown : List Addr) : Prop where
  same : ∀ a u, H0 a = some u → a ∉ so0 → H a = some u
  there : ∀ a u, H0 a = some u → ∃ u', H a = some u'
  nt : ∀ a, Nt H0 a → Nt H a
  env : RpE T ρ (hid H (Own OX (own ++ sown))) H s.env σ own
  sto : RpS T ρ (hid H (Own OX (own ++ sown))) H s.sto ρ sown
  nd : (own ++ sown).Nodup
  new : ∀ a ∈ own, H0 a = none
  snew : ∀ a ∈ sown, a ∈ so0 ∨ H0 a = none
  ox : ∀ a ∈ own ++ sown, ¬ OX a
  oxH : ∀ a, OX a → Nt H a
section
variable {T : Tb} {OX OX' : Addr → Prop} {H0 H H' : Hp} {so0 ρ ρ' own sown own' sown' : List Addr} {s : S} {σ : St}
theorem Rst.gone0 (R : Rst T OX H0 so0 ρ H s σ own sown) {a : Addr} (h : H a = none) : H0 a = none := by
  cases e : H0 a with
  | none => rfl
  | some u => obtain ⟨u', q⟩ := R.there a u e; rw [h] at q; cases q
/-- fewer that own from outside -/
theorem Rst.weak (R : Rst T OX H0 so0 ρ H s σ own sown) (h : ∀ a, OX' a → OX a) : Rst T OX' H0 so0 ρ H s σ own sown := by
  have m : Same (hid H (Own OX (own ++ sown))) (hid H (Own OX' (own ++ sown))) := hid_less fun a q => q.imp (h a) id
  exact ⟨R.same, R.there, R.nt, R.env.mono m (List.prefix_refl _) fun _ _ _ q => q, R.sto.mono m (List.prefix_refl _) fun _ _ _ q => q, R.nd, R.new, R.snew, fun a ma q => R.ox a ma (h a q), fun a q => R.oxH a (h a q)⟩
/-- more is tracked: nothing that stood is changed -/
theorem Rst.grow (R : Rst T OX H0 so0 ρ H s σ own sown) (h : Same H H') (hn : ∀ a, Own OX (own ++ sown) a → ∃ u, H a = some u := by exact fun _ h => h) : Rst T OX H0 so0 ρ H' s σ own sown := by
  have m : Same (hid H (Own OX (own ++ sown))) (hid H' (Own OX (own ++ sown))) := hid_mono fun a o e p => ⟨p, h a o e⟩
  exact ⟨fun a u e n => h a u (R.same a u e n), fun a u e => (R.there a u e).imp fun u' q => h a u' q, fun a q => (R.nt a q).mono h, R.env.mono m (List.prefix_refl _) fun a _ u q => h a u q, R.sto.mono m (List.prefix_refl _) fun a _ u q => h a u q, R.nd, R.new, R.snew, R.ox, fun a q => (R.oxH a q).mono h⟩
theorem RpE.there {Φ : Hp} : ∀ {env : List (Option (Nat × D))} {σ : St} {o : List Addr}, RpE T ρ Φ H env σ o → ∀ a ∈ o, ∃ vs, H a = some (.lst vs)
  | _, _, _, .nil, a, m => by simp at m
  | _, _, _, .no r, a, m => RpE.there r a m
  | _, _, _, .yes h r, a, m => by
    rcases List.mem_append.mp m with m | m
    · exact h.there a m
    · exact RpE.there r a m
theorem RpF.there {Φ : Hp} : ∀ {fs : List (Nat × D)} {vs : List V} {o : List Addr}, RpF T ρ Φ H fs vs o → ∀ a ∈ o, ∃ vs, H a = some (.lst vs)
  | _, _, _, .nil, a, m => by simp at m
  | _, _, _, .cons h r, a, m => by
    rcases List.mem_append.mp m with m | m
    · exact h.there a m
    · exact RpF.there r a m
theorem RpS.there {Φ : Hp} : ∀ {sto : Sto} {as o : List Addr}, RpS T ρ Φ H sto as o → ∀ a ∈ o, Nt H a
  | _, _, _, .nil, a, m => by simp at m
  | _, _, _, .cons _ _ h3 h4 r, a, m => by
    rcases List.mem_cons.mp m with rfl | m
    · exact ⟨_, h3, rfl⟩
    · rcases List.mem_append.mp m with m | m
      · exact .lst (h4.there a m)
      · exact RpS.there r a m
/-- what is owned is there -/
theorem Rst.ownH (R : Rst T OX H0 so0 ρ H s σ own sown) : ∀ a, Own OX (own ++ sown) a → Nt H a := fun a q => by
  rcases q with q | q
  · exact R.oxH a q
  · rcases List.mem_append.mp q with q | q
    · exact .lst (R.env.there a q)
    · exact R.sto.there a q
theorem Rst.grows (R : Rst T OX H0 so0 ρ H s σ own sown) (h : Same H H') : Rst T OX H0 so0 ρ H' s σ own sown := R.grow h fun a q => (R.ownH a q).ex
end

/-! ### where one stands -/
structure Bs where
  OX : Addr → Prop
  H0 : Hp
  so0 : List Addr
  ρ : List Addr
  H : Hp
  own : List Addr
  sown : List Addr
/-- the frozen part -/
noncomputable def Bs.Φ (b : Bs) : Hp := hid b.H (Own b.OX (b.own ++ b.sown))
theorem Bs.le (b : Bs) : Same b.Φ b.H := hid_le
abbrev At (T : Tb) (b : Bs) (s : S) (σ : St) : Prop := Rst T b.OX b.H0 b.so0 b.ρ b.H s σ b.own b.sown
/-- from b to b'; the temporary value at hand owns o -/
structure Go (b b' : Bs) (o : List Addr) : Prop where
  adv : Adv b.H b.own b.sown b'.H (o ++ b'.own) b'.sown
  pre : b.ρ <+: b'.ρ
  h0 : b'.H0 = b.H0
  so : b'.so0 = b.so0
  nd : o.Nodup
  no : ∀ a ∈ o, ¬ b.OX a
  ox : ∀ a, b'.OX a ↔ (b.OX a ∨ a ∈ o)
section
variable {T : Tb} {b b1 b2 b' : Bs} {s s1 s2 : S} {σ : St} {o o' o1 o2 : List Addr} {H' : Hp}
theorem Go.refl (b : Bs) : Go b b [] := ⟨Adv.refl _ _ _, List.prefix_refl _, rfl, rfl, List.nodup_nil, fun _ m => by simp at m, fun a => by simp⟩
theorem Go.phi (g : Go b b' o) : Same b.Φ b'.Φ := hid_mono fun a u q n => by
  have ns : a ∉ b.sown := fun m => n (.inr (List.mem_append_right _ m))
  have hn : ∀ c, c ∈ o ++ b'.own → c = a → False := fun c m e => by
    subst e
    rcases g.adv.sub _ m with z | z
    · exact n (.inr (List.mem_append_left _ z))
    · rw [q] at z; cases z
  refine ⟨fun z => ?_, g.adv.same a u q ns⟩
  rcases z with z | z
  · rcases (g.ox a).mp z with z | z
    · exact n (.inl z)
    · exact hn a (List.mem_append_left _ z) rfl
  · rcases List.mem_append.mp z with z | z
    · exact hn a (List.mem_append_right _ z) rfl
    · rcases g.adv.ssub a z with z | z
      · exact ns z
      · rw [q] at z; cases z
/-- with other owners from outside -/
def Bs.out (b : Bs) (OX : Addr → Prop) : Bs := { b with OX := OX }
/-- two steps: of what the two values own, o is still owned -/
theorem Go.comp (g1 : Go b b1 o1) (g2 : Go b1 b2 o2) (nd : o.Nodup) (sub : ∀ a ∈ o, a ∈ o1 ∨ a ∈ o2) : Go b (b2.out fun a => b.OX a ∨ a ∈ o) o where
  adv := by
    have go2 : ∀ a, a ∈ o2 ++ b2.own → a ∈ b.own ∨ b.H a = none := fun a m => by
      rcases g2.adv.sub a m with q | q
      · exact g1.adv.sub a (List.mem_append_right _ q)
      · exact .inr (g1.adv.gone q)
    refine ⟨fun a u h n => ?_, fun a u h => ?_, fun a h => ?_, fun a m => ?_, fun a m => ?_⟩
    · refine g2.adv.same a u (g1.adv.same a u h n) fun m => ?_
      rcases g1.adv.ssub a m with q | q
      · exact n q
      · rw [h] at q; cases q
    · obtain ⟨u', h'⟩ := g1.adv.there a u h
      exact g2.adv.there a u' h'
    · exact g2.adv.nt a (g1.adv.nt a h)
    · rcases List.mem_append.mp m with m | m
      · rcases sub a m with m | m
        · exact g1.adv.sub a (List.mem_append_left _ m)
        · exact go2 a (List.mem_append_left _ m)
      · exact go2 a (List.mem_append_right _ m)
    · rcases g2.adv.ssub a m with q | q
      · exact g1.adv.ssub a q
      · exact .inr (g1.adv.gone q)
  pre := g1.pre.trans g2.pre
  h0 := g2.h0.trans g1.h0
  so := g2.so.trans g1.so
  nd := nd
  no := fun a m z => by
    rcases sub a m with m | m
    · exact g1.no a m z
    · exact g2.no a m ((g1.ox a).mpr (.inl z))
  ox := fun a => Iff.rfl
theorem Go.atComp (g1 : Go b b1 o1) (g2 : Go b1 b2 o2) (sub : ∀ a ∈ o, a ∈ o1 ∨ a ∈ o2) (A : At T b2 s σ) : At T (b2.out fun a => b.OX a ∨ a ∈ o) s σ :=
  A.weak fun a q => by
    rcases q with q | q
    · exact (g2.ox a).mpr (.inl ((g1.ox a).mpr (.inl q)))
    · rcases sub a q with q | q
      · exact (g2.ox a).mpr (.inl ((g1.ox a).mpr (.inr q)))
      · exact (g2.ox a).mpr (.inr q)
/-- both values at hand -/
theorem Go.trans (g1 : Go b b1 o1) (g2 : Go b1 b2 o2) : Go b b2 (o1 ++ o2) := by
  have nd : (o1 ++ o2).Nodup := List.nodup_append.mpr ⟨g1.nd, g2.nd, fun a m c m' e => g2.no c m' ((g1.ox c).mpr (.inr (e ▸ m)))⟩
  have g := g1.comp g2 nd fun a m => List.mem_append.mp m
  refine ⟨g.adv, g.pre, g.h0, g.so, g.nd, g.no, fun a => ?_⟩
  rw [g2.ox, g1.ox, List.mem_append, or_assoc]
/-- what is at hand is given up -/
theorem Go.drop (g : Go b b' o) : Go b (b'.out b.OX) [] := ⟨g.adv.less fun a m => List.mem_append_right _ (show a ∈ b'.own from m), g.pre, g.h0, g.so, List.nodup_nil, fun _ m => by simp at m, fun a => by simp [Bs.out]⟩
theorem At.drop (g : Go b b' o) (A : At T b' s σ) : At T (b'.out b.OX) s σ := A.weak fun a q => (g.ox a).mpr (.inl q)
/-- the heap grows -/
def Bs.heap (b : Bs) (H : Hp) : Bs := { b with H := H }
theorem Go.grows (g : Go b b' o) (h : Same b'.H H') : Go b (b'.heap H') o where
  adv := ⟨fun a u e n => h a u (g.adv.same a u e n), fun a u e => (g.adv.there a u e).imp fun u' q => h a u' q, fun a q => (g.adv.nt a q).mono h, g.adv.sub, g.adv.ssub⟩
  pre := g.pre
  h0 := g.h0
  so := g.so
  nd := g.nd
  no := g.no
  ox := g.ox
end

/-! ### values at hand -/
inductive EvR (T : Tb) (b : Bs) : EV → V → List Addr → Prop where
  | own {k : Nat} {d : D} {v : V} {o : List Addr} : RpK T b.ρ b.Φ b.H k d v o → EvR T b (.own k d) v o
  | bor {k : Nat} {d : D} {v : V} {o : List Addr} : RpK T b.ρ b.Φ b.H k d v o → (∀ a ∈ o, a ∉ b.sown) → EvR T b (.bor k d) v []
section
variable {T : Tb} {b b1 b2 b' : Bs} {s s1 s2 : S} {σ : St} {o o' o1 o2 : List Addr} {ev : EV} {v : V}
theorem EvR.there (E : EvR T b ev v o) : ∀ a ∈ o, ∃ u, b.H a = some u := by
  cases E with
  | own h => exact fun a m => let ⟨vs, e⟩ := h.there a m; ⟨_, e⟩
  | bor h _ => exact fun a m => by simp at m
theorem EvR.move (E : EvR T b ev v o) (g : Go b b' o') (dis : ∀ a ∈ o, a ∉ b.sown) : EvR T b' ev v o := by
  cases E with
  | own h => exact .own (h.mono g.phi g.pre fun a m u q => g.adv.same a u q (dis a m))
  | bor h n =>
    refine .bor (h.mono g.phi g.pre fun a m u q => g.adv.same a u q (n a m)) fun a m z => ?_
    rcases g.adv.ssub a z with z | z
    · exact n a m z
    · obtain ⟨vs, e⟩ := h.there a m
      rw [e] at z; cases z
/-- seen -/
theorem EvR.see (E : EvR T b ev v o) : Rp T b.ρ b.H ev.d v := by
  cases E with
  | own h => exact h.see b.le
  | bor h _ => exact h.see b.le
/-- what is at hand is not the store's -/
theorem Go.dis (g : Go b b' o) (A : At T b' s σ) : ∀ a ∈ o, a ∉ b'.sown := fun a m z => A.ox a (List.mem_append_right _ z) ((g.ox a).mpr (.inr m))
end
end BT
end

section
/-! BtExpr: expressions: the evaluator's answer is the model's. -/
namespace BT
open PySem PySem.Spec L2
open PyProof.Rows hiding St
set_option autoImplicit false

/-- how an exception of the small language stands -/
inductive RX (T : Tb) (ρ : List Addr) (Φ : Hp) : Exc → Value → Option Addr → Prop where
  | plain {c : Nat} {cls : Value} {d : Option Addr} : T.exc c = some (cls, []) → RX T ρ Φ ⟨c, []⟩ cls d
  | flds {c : Nat} {cls : Value} {ns : List PySem.Str} {fs : List D} {vs : List V} {a : Addr} : T.exc c = some (cls, ns) → ns.length = vs.length → Φ a = some (.xd (ns.zip vs)) → RpL T ρ Φ fs vs → RX T ρ Φ ⟨c, fs⟩ cls (some a)
theorem RX.mono {T : Tb} {ρ ρ' : List Addr} {Φ Φ' : Hp} {x : Exc} {c : Value} {d : Option Addr} (h : RX T ρ Φ x c d) (e : Same Φ Φ') (p : ρ <+: ρ') : RX T ρ' Φ' x c d := by
  cases h with
  | plain h => exact .plain h
  | flds h1 h2 h3 h4 => exact .flds h1 h2 (e _ _ h3) (h4.mono e p)

/-- what is wanted behind an evaluation that gives `out` -/
def Post {α ω : Type} (T : Tb) (b : Bs) (σ : St) (R : Bs → α → ω → List Addr → Prop) (out : Out α) (Q : ω → Hp → Prop) (W : WX) : Prop :=
  match out with
  | .ok a s' => ∀ w b' o, Go b b' o → At T b' s' σ → R b' a w o → Q w b'.H
  | .exc x s' => ∀ c d b', Go b b' [] → At T b' s' σ → RX T b'.ρ b'.Φ x c d → W c d σ b'.H
  | .err => False
section
variable {α β ω ω' : Type} {T : Tb} {b b0 b1 b' : Bs} {σ : St} {s s' : S} {o o0 : List Addr} {R : Bs → α → ω → List Addr → Prop} {R' : Bs → β → ω' → List Addr → Prop} {out : Out α} {f : α → S → Out β} {W : WX}
theorem Post.mono {Q Q' : ω → Hp → Prop} (h : Post T b σ R out Q W) (m : ∀ w H, Q w H → Q' w H) : Post T b σ R out Q' W := by
  cases out with
  | ok a s' => exact fun w b' o g A r => m _ _ (h w b' o g A r)
  | exc x s' => exact h
  | err => exact h
theorem Bs.out_phi {OX : Addr → Prop} (b : Bs) (h : ∀ a, OX a → b.OX a) : Same b.Φ (b.out OX).Φ := hid_less fun a q => q.imp (h a) id
theorem Go.excOut {x : Exc} {c : Value} {d : Option Addr} (g0 : Go b0 b o0) {b2 : Bs} (g : Go b b2 []) (A : At T b2 s' σ) (r : RX T b2.ρ b2.Φ x c d) :
    ∃ b', b'.H = b2.H ∧ Go b0 b' [] ∧ At T b' s' σ ∧ RX T b'.ρ b'.Φ x c d := by
  have sub : ∀ a ∈ ([] : List Addr), a ∈ o0 ∨ a ∈ ([] : List Addr) := fun a m => by simp at m
  refine ⟨b2.out fun a => b0.OX a ∨ a ∈ [], rfl, g0.comp g List.nodup_nil sub, g0.atComp g sub A, r.mono (Bs.out_phi b2 fun a q => ?_) (List.prefix_refl _)⟩
  rcases q with q | q
  · exact (g.ox a).mpr (.inl ((g0.ox a).mpr (.inl q)))
  · simp at q
/-- one evaluation, then another -/
theorem Post.seq {Q : ω' → Hp → Prop} (g0 : Go b0 b o0) (h : Post T b0 σ R' (out.bind f) Q W) :
    Post T b σ R out (fun w H' => ∃ a s' b' o, b'.H = H' ∧ Go b b' o ∧ At T b' s' σ ∧ R b' a w o ∧ Post T b0 σ R' (f a s') Q W) W := by
  cases out with
  | ok a s' => exact fun w b' o g A r => ⟨a, s', b', o, rfl, g, A, r, h⟩
  | exc x s' =>
    intro c d b2 g A r
    obtain ⟨b', e, g', A', r'⟩ := g0.excOut g A r
    rw [← e]
    exact h c d b' g' A' r'
  | err => exact h
end

/-! ### readings -/
/-- the calls of the small language -/
abbrev CF := Nat → List D → Sto → CR
def tE (T : Tb) (C : CF) (W : WX) (c : CE) : TE := fun σ H Q => ∃ b s, b.H = H ∧ At T b s σ ∧ Post T b σ (EvR T) (evalE C c s) Q W
/-- values in a row: the temporary ones own what they own -/
inductive EvRs (T : Tb) (b : Bs) : List EV → List V → List Addr → Prop where
  | nil : EvRs T b [] [] []
  | cons {e : EV} {v : V} {es : List EV} {vs : List V} {o o' : List Addr} : EvR T b e v o → EvRs T b es vs o' → EvRs T b (e :: es) (v :: vs) (o ++ o')
def tEs (T : Tb) (C : CF) (W : WX) (c : CEs) : TA := fun σ H Q => ∃ b s, b.H = H ∧ At T b s σ ∧ Post T b σ (EvRs T) (evalEs C c s) Q W
def tT (T : Tb) (C : CF) (W : WX) (c : CE) : TT := fun σ H Q => ∃ b s, b.H = H ∧ At T b s σ ∧ Post T b σ (fun _ t w o => w = t ∧ o = []) (evalT C c s) Q W

theorem PE.weak {X : Cx} {e : Expr} {t t' : TE} (h : PE X e t) (w : ∀ σ H Q, t' σ H Q → t σ H Q) : PE X e t' := ⟨fun pins s σ H Q I q => h.run pins s σ H Q I (w σ H Q q)⟩
theorem PT.weak {X : Cx} {e : Expr} {t t' : TT} (h : PT X e t) (w : ∀ σ H Q, t' σ H Q → t σ H Q) : PT X e t' := ⟨fun pins s σ H Q I q => h.run pins s σ H Q I (w σ H Q q)⟩
theorem PA.weak {X : Cx} {e : List Expr} {t t' : TA} (h : PA X e t) (w : ∀ σ H Q, t' σ H Q → t σ H Q) : PA X e t' := ⟨fun pos pins s σ H Q I q => h.run pos pins s σ H Q I (w σ H Q q)⟩
theorem PS.weak {X : Cx} {e : Stmt} {t t' : TS} (h : PS X e t) (w : ∀ D σ H, t' D σ H → t D σ H) : PS X e t' := ⟨fun pins s σ H D I q => h.run pins s σ H D I (w D σ H q)⟩
theorem PSs.weak {X : Cx} {e : List Stmt} {t t' : TS} (h : PSs X e t) (w : ∀ D σ H, t' D σ H → t D σ H) : PSs X e t' := ⟨fun pins s σ H D I q => h.run pins s σ H D I (w D σ H q)⟩

section
variable {T : Tb} {C : CF} {W : WX} {b b' b1 b2 : Bs} {σ : St} {s s' : S} {o o1 o2 : List Addr} {Q : VK} {z : D} {v : V}
/-- the end: a scalar -/
theorem Post.fin0 {Φ : Hp} (g : Go b b' o) (A : At T b' s' σ) (h : Post T b σ (EvR T) (.ok (.own 0 z) s') Q W) (sz : scal z = true) (r : Rp T b'.ρ Φ z v) : Q v b'.H :=
  h v (b'.out b.OX) [] g.drop (At.drop g A) (.own (.sc sz (r.scal sz)))
theorem Post.fin0H {Φ H' : Hp} (g : Go b b' o) (A : At T b' s' σ) (hH : Same b'.H H') (h : Post T b σ (EvR T) (.ok (.own 0 z) s') Q W) (sz : scal z = true) (r : Rp T b'.ρ Φ z v) : Q v H' :=
  h v ((b'.out b.OX).heap H') [] (g.drop.grows hH) ((At.drop g A).grows hH) (.own (.sc sz (r.scal sz)))
theorem Post.liftD {q : Option D} (h : Post T b σ (EvR T) (lift q s') Q W) : ∃ z, q = some z ∧ Post T b σ (EvR T) (.ok (.own 0 z) s') Q W := by
  cases q with
  | none => exact h.elim
  | some z => exact ⟨z, rfl, h⟩
theorem Post.liftB {q : Option Bool} (h : Post T b σ (EvR T) (BT.liftB q s') Q W) : ∃ z, q = some z ∧ Post T b σ (EvR T) (.ok (.own 0 (.bl z)) s') Q W := by
  cases q with
  | none => exact h.elim
  | some z => exact ⟨z, rfl, h⟩
end

/-! ### constants and names -/
section
variable {T : Tb} {C : CF} {W : WX} {X : Cx} {pos : Pos}
theorem snd_c {e : Expr} {c : CE} {d : D} {v : V} (h : PE X e (tC v)) (hc : ∀ s, evalE C c s = .ok (.own 0 d) s) (sd : scal d = true) (r : ∀ ρ Φ, Rp T ρ Φ d v) : PE X e (tE T C W c) :=
  PE.weak h fun σ H Q ⟨b, s, eH, A, h⟩ => by
    subst eH
    rw [hc] at h
    exact h.fin0 (Go.refl b) A sd (r b.ρ b.Φ)
theorem getElem?_set_same {α : Type} {l : List α} {i : Nat} {x : α} (h : l[i]? = some x) : l.set i x = l := by
  induction l generalizing i with
  | nil => rfl
  | cons a l ih =>
    cases i with
    | zero => simp at h; subst h; rfl
    | succ i => rw [List.set_cons_succ, ih (by simpa using h)]
/-- of three parts the middle one is given up, in the same heap -/
theorem At.slot {b : Bs} {s : S} {σ : St} {i k : Nat} {d : D} (A : At T b s σ) (e : s.env[i]? = some (some (k, d))) :
    ∃ v p m q, b.own = p ++ m ++ q ∧ σ[i]? = some (some v) ∧ RpK T b.ρ b.Φ b.H k d v m ∧
      (∀ (OX : Addr → Prop) (k' : Nat) (d' : D) (v' : V) (m' : List Addr), (∀ a, OX a → b.OX a ∨ a ∈ m) → m'.Nodup → (∀ a ∈ m', a ∈ m ∧ ¬ OX a) → RpK T b.ρ (hid b.H (Own OX ((p ++ m' ++ q) ++ b.sown))) b.H k' d' v' m' →
        Rst T OX b.H0 b.so0 b.ρ b.H { s with env := s.env.set i (some (k', d')) } (σ.set i (some v')) (p ++ m' ++ q) b.sown) ∧
      (∀ (OX : Addr → Prop), (∀ a, OX a → b.OX a ∨ a ∈ m) → Rst T OX b.H0 b.so0 b.ρ b.H { s with env := s.env.set i none } σ (p ++ q) b.sown) := by
  obtain ⟨v, p, m, q, e1, e2, e3, e4, e5⟩ := RpE.split A.env e
  have nd : ((p ++ m ++ q) ++ b.sown).Nodup := by rw [← e1]; exact A.nd
  have ox : ∀ a, a ∈ p ++ m ++ q ∨ a ∈ b.sown → ¬ b.OX a := fun a h => A.ox a (by rw [e1]; exact List.mem_append.mpr h)
  have nd' := nd
  simp only [List.nodup_append, List.mem_append] at nd'
  refine ⟨v, p, m, q, e1, e2, e3, fun OX k' d' v' m' hox hm hs r => ?_, fun OX hox => ?_⟩
  · have hΦ : Same (hid b.H (Own b.OX (b.own ++ b.sown))) (hid b.H (Own OX ((p ++ m' ++ q) ++ b.sown))) := hid_less fun a z => by
      rcases z with z | z
      · rcases hox a z with z | z
        · exact .inl z
        · exact .inr (by rw [e1]; simp [z])
      · refine .inr ?_
        rw [e1]
        simp only [List.mem_append] at z ⊢
        rcases z with ((z | z) | z) | z
        · simp [z]
        · simp [(hs a z).1]
        · simp [z]
        · simp [z]
    refine ⟨A.same, A.there, A.nt, e4 hΦ (List.prefix_refl _) (fun _ _ _ h => h) k' d' v' m' r, A.sto.mono hΦ (List.prefix_refl _) fun _ _ _ h => h, ?_, fun a ha => A.new a ?_, A.snew, fun a ha z => ?_, fun a z => ?_⟩
    · simp only [List.nodup_append, List.mem_append] at nd' ⊢
      obtain ⟨⟨⟨n1, n2, n3⟩, n4, n5⟩, n6, n7⟩ := nd'
      refine ⟨⟨⟨n1, hm, fun a ha c hc => n3 a ha c (hs c hc).1⟩, n4, fun a ha c hc => n5 a (ha.imp id fun z => (hs a z).1) c hc⟩, n6, fun a ha c hc => n7 a (ha.imp (Or.imp id fun z => (hs a z).1) id) c hc⟩
    · rw [e1]
      simp only [List.mem_append] at ha ⊢
      exact ha.imp (Or.imp id fun z => (hs a z).1) id
    · rcases hox a z with z1 | z1
      · refine ox a ?_ z1
        simp only [List.mem_append] at ha ⊢
        exact ha.imp (Or.imp (Or.imp id fun z => (hs a z).1) id) id
      · simp only [List.nodup_append, List.mem_append] at nd' ha
        obtain ⟨⟨⟨n1, n2, n3⟩, n4, n5⟩, n6, n7⟩ := nd'
        rcases ha with ((ha | ha) | ha) | ha
        · exact n3 a ha a z1 rfl
        · exact (hs a ha).2 z
        · exact n5 a (.inr z1) a ha rfl
        · exact n7 a (.inl (.inr z1)) a ha rfl
    · rcases hox a z with z1 | z1
      · exact A.oxH a z1
      · exact .lst (e3.there a z1)
  · have hΦ : Same (hid b.H (Own b.OX (b.own ++ b.sown))) (hid b.H (Own OX ((p ++ q) ++ b.sown))) := hid_less fun a z => by
      rcases z with z | z
      · rcases hox a z with z | z
        · exact .inl z
        · exact .inr (by rw [e1]; simp [z])
      · refine .inr ?_
        rw [e1]
        simp only [List.mem_append] at z ⊢
        rcases z with (z | z) | z <;> simp [z]
    refine ⟨A.same, A.there, A.nt, e5 hΦ (List.prefix_refl _) (fun _ _ _ h => h), A.sto.mono hΦ (List.prefix_refl _) fun _ _ _ h => h, ?_, fun a ha => A.new a ?_, A.snew, fun a ha z => ?_, fun a z => ?_⟩
    · simp only [List.nodup_append, List.mem_append] at nd' ⊢
      obtain ⟨⟨⟨n1, n2, n3⟩, n4, n5⟩, n6, n7⟩ := nd'
      exact ⟨⟨n1, n4, fun a ha c hc => n5 a (.inl ha) c hc⟩, n6, fun a ha c hc => n7 a (ha.imp .inl id) c hc⟩
    · rw [e1]
      simp only [List.mem_append] at ha ⊢
      exact ha.imp .inl id
    · rcases hox a z with z1 | z1
      · refine ox a ?_ z1
        simp only [List.mem_append] at ha ⊢
        exact ha.imp (Or.imp .inl id) id
      · simp only [List.nodup_append, List.mem_append] at nd' ha
        obtain ⟨⟨⟨n1, n2, n3⟩, n4, n5⟩, n6, n7⟩ := nd'
        rcases ha with (ha | ha) | ha
        · exact n3 a ha a z1 rfl
        · exact n5 a (.inr z1) a ha rfl
        · exact n7 a (.inl (.inr z1)) a ha rfl
    · rcases hox a z with z1 | z1
      · exact A.oxH a z1
      · exact .lst (e3.there a z1)
theorem snd_var {i : Nat} {e : Expr} (h : PE X e (tVar i)) : PE X e (tE T C W (.var i)) := PE.weak h fun σ H Q ⟨b, s, eH, A, h⟩ => by
  subst eH
  unfold evalE at h
  split at h
  case h_2 => exact h.elim
  case h_1 k d es =>
    obtain ⟨v, p, m, q, e1, e2, e3, e4, e5⟩ := A.slot es
    refine ⟨v, e2, ?_⟩
    have hmem : ∀ a ∈ m, ¬ b.OX a := fun a ha z => A.ox a (by rw [e1]; simp [ha]) z
    have nd' : ((p ++ m ++ q) ++ b.sown).Nodup := by rw [← e1]; exact A.nd
    simp only [List.nodup_append, List.mem_append] at nd'
    obtain ⟨⟨⟨n1, n2, n3⟩, n4, n5⟩, n6, n7⟩ := nd'
    have fr : Rp T b.ρ (hid b.H (Own b.OX ((p ++ [] ++ q) ++ b.sown))) d v := by
      have w : ∀ a, Own b.OX ((p ++ [] ++ q) ++ b.sown) a → Own b.OX (b.own ++ b.sown) a := fun a z => z.imp id fun z => by
        rw [e1]; simp only [List.mem_append, List.append_nil] at z ⊢; rcases z with (z | z) | z <;> simp [z]
      refine e3.freeze (hid_less w) (List.prefix_refl _) fun a ha u hu => ?_
      · rw [hid_at]
        · exact hu
        · rintro (z | z)
          · exact hmem a ha z
          · simp only [List.mem_append, List.append_nil] at z
            rcases z with (z | z) | z
            · exact n3 a z a ha rfl
            · exact n5 a (.inr ha) a z rfl
            · exact n7 a (.inl (.inr ha)) a z rfl
    have A' := e4 b.OX 0 d v [] (fun a z => .inl z) List.nodup_nil (fun a m => by simp at m) (.frz fr)
    rw [getElem?_set_same e2] at A'
    refine h v { b with own := p ++ [] ++ q } [] ⟨⟨fun _ _ h _ => h, fun _ u h => ⟨u, h⟩, fun _ h => h, fun a ha => .inl ?_, fun a ha => .inl ha⟩, List.prefix_refl _, rfl, rfl, List.nodup_nil, fun _ m => by simp at m, fun a => by simp⟩ A' (.own (.frz fr))
    rw [e1]; simp only [List.mem_append, List.append_nil, List.nil_append] at ha ⊢; rcases ha with ha | ha <;> simp [ha]
theorem snd_bor {i : Nat} {e : Expr} (h : PE X e (tVar i)) : PE X e (tE T C W (.bor i)) := PE.weak h fun σ H Q ⟨b, s, eH, A, h⟩ => by
  subst eH
  unfold evalE at h
  split at h
  case h_2 => exact h.elim
  case h_1 k d es =>
    obtain ⟨v, p, m, q, e1, e2, e3, e4, e5⟩ := A.slot es
    refine ⟨v, e2, h v b [] (Go.refl b) A (.bor e3 fun a ha z => ?_)⟩
    have nd' : ((p ++ m ++ q) ++ b.sown).Nodup := by rw [← e1]; exact A.nd
    exact (List.nodup_append.mp nd').2.2 a (by simp [ha]) a z rfl
theorem snd_mv {i : Nat} {e : Expr} (h : PE X e (tVar i)) : PE X e (tE T C W (.mv i)) := PE.weak h fun σ H Q ⟨b, s, eH, A, h⟩ => by
  subst eH
  unfold evalE at h
  split at h
  case h_2 => exact h.elim
  case h_1 k d es =>
    obtain ⟨v, p, m, q, e1, e2, e3, e4, e5⟩ := A.slot es
    refine ⟨v, e2, ?_⟩
    have nd' : ((p ++ m ++ q) ++ b.sown).Nodup := by rw [← e1]; exact A.nd
    have hmem : ∀ a ∈ m, ¬ b.OX a := fun a ha z => A.ox a (by rw [e1]; simp [ha]) z
    have A' := e5 (fun a => b.OX a ∨ a ∈ m) (fun a z => z)
    have w1 : ∀ a ∈ m ++ (p ++ q), a ∈ b.own := fun a ha => by
      rw [e1]; simp only [List.mem_append] at ha ⊢; rcases ha with ha | ha | ha <;> simp [ha]
    have w2 : m.Nodup := ((List.nodup_append.mp (List.nodup_append.mp (List.nodup_append.mp nd').1).1).2).1
    have w3 : ∀ a, Own (fun a => b.OX a ∨ a ∈ m) ((p ++ q) ++ b.sown) a → Own b.OX (b.own ++ b.sown) a := fun a z => by
      rcases z with (z | z) | z
      · exact .inl z
      · exact .inr (by rw [e1]; simp [z])
      · refine .inr ?_
        rw [e1]
        simp only [List.mem_append] at z ⊢; rcases z with (z | z) | z <;> simp [z]
    exact h v { b with own := p ++ q, OX := fun a => b.OX a ∨ a ∈ m } m ⟨⟨fun _ _ h _ => h, fun _ u h => ⟨u, h⟩, fun _ h => h, fun a ha => .inl (w1 a ha), fun a ha => .inl ha⟩, List.prefix_refl _, rfl, rfl, w2, hmem, fun a => Iff.rfl⟩ A' (.own (e3.mono (hid_less w3) (List.prefix_refl _) fun _ _ _ h => h))
end
end BT
end

section
/-! BtOps: operators, comparisons, truth. -/
namespace BT
open PySem PySem.Spec L2
open PyProof.Rows hiding St
set_option autoImplicit false

theorem limLe {n : Nat} (h : n ≤ LIM) : n ≤ sizeLine := by rw [sizeLine_eq]; unfold LIM at h; omega
theorem limLt {n : Nat} (h : n ≤ LIM) : n < sizeLine := by rw [sizeLine_eq]; unfold LIM at h; omega
theorem svLen (a : List Nat) : (sv a).length = a.length := by simp [PySem.Str.length]
theorem svApp (a b : List Nat) : sv a ++ sv b = sv (a ++ b) := by
  show (⟨a.toArray ++ b.toArray⟩ : PySem.Str) = _
  simp
theorem svInj {a b : List Nat} : sv a = sv b ↔ a = b := by
  constructor
  · intro h; simpa [sv] using h
  · rintro rfl; rfl
theorem bitsOk_ok {i j : Int} (h : bitsOk i j = true) : IntMulOk i j := by
  unfold bitsOk at h
  simp only [Bool.or_eq_true, decide_eq_true_eq] at h
  rcases h with (h | h) | h
  · exact .of_left (intBits_le_64 (by omega) (by omega))
  · exact .of_right (intBits_le_64 (by omega) (by omega))
  · exact CMulW.ok h
section
variable {X : Cx} {T : Tb}
def rB (T : Tb) (op : BOp) : R2 := fun x y H Q => ∃ ρ dx dy z, Rp T ρ H dx x ∧ Rp T ρ H dy y ∧ binop op dx dy = some z ∧ ∀ v, (∀ Φ, Rp T ρ Φ z v) → Q v H
theorem strAll {a b : List Nat} (h1 : a.all (· < 1114112) = true) (h2 : b.all (· < 1114112) = true) : (a ++ b).all (· < 1114112) = true := by
  rw [List.all_append, h1, h2] <;> rfl
theorem Rp.strAll {ρ : List Addr} {Φ : Hp} {s : List Nat} {v : V} (h : Rp T ρ Φ (.str s) v) : s.all (· < 1114112) = true := by cases h with | str _ h => exact h
theorem ob_add : OpR X (binaryOp .Add) (rB T .add) := by
  rintro pins s σ H x y v u Q I rx ry ⟨ρ, dx, dy, z, r1, r2, hz, k⟩
  unfold binop at hz
  split at hz <;> try (first | (cases hz; done) | contradiction)
  · cases hz
    exact op_add pins s σ H x y v u Q I rx ry ⟨_, _, r1.int', r2.int', k _ fun Φ => .int _⟩
  · rename_i a b _
    split at hz
    · rename_i hl
      cases hz
      refine op_add_str pins s σ H x y v u Q I rx ry ⟨_, _, r1.str', r2.str', ?_, ?_⟩
      · rw [svLen, svLen]; exact limLe hl
      · rw [svApp]; exact k _ fun Φ => .str _ (BT.strAll r1.strAll r2.strAll)
    · cases hz
theorem ob_sub : OpR X (binaryOp .Sub) (rB T .sub) := by
  rintro pins s σ H x y v u Q I rx ry ⟨ρ, dx, dy, z, r1, r2, hz, k⟩
  unfold binop at hz
  split at hz <;> try contradiction
  cases hz
  exact op_sub pins s σ H x y v u Q I rx ry ⟨_, _, r1.int', r2.int', k _ fun Φ => .int _⟩
theorem op_mulB : OpR X (binaryOp .Mult) (rI IntMulOk fun i j => .int (i * j)) := opI fun _ _ _ _ _ _ _ hc q => mul_int q hc
theorem ob_mul : OpR X (binaryOp .Mult) (rB T .mul) := by
  rintro pins s σ H x y v u Q I rx ry ⟨ρ, dx, dy, z, r1, r2, hz, k⟩
  unfold binop at hz
  split at hz <;> try contradiction
  split at hz
  · rename_i hb
    cases hz
    exact op_mulB pins s σ H x y v u Q I rx ry ⟨_, _, r1.int', r2.int', bitsOk_ok hb, k _ fun Φ => .int _⟩
  · cases hz
theorem ob_fdiv : OpR X (binaryOp .FloorDiv) (rB T .fdiv) := by
  rintro pins s σ H x y v u Q I rx ry ⟨ρ, dx, dy, z, r1, r2, hz, k⟩
  unfold binop at hz
  split at hz <;> try contradiction
  split at hz
  · rename_i hb
    cases hz
    exact op_fdivW pins s σ H x y v u Q I rx ry ⟨_, _, r1.int', r2.int', hb, k _ fun Φ => .int _⟩
  · cases hz
theorem ob_mod : OpR X (binaryOp .Mod) (rB T .mod) := by
  rintro pins s σ H x y v u Q I rx ry ⟨ρ, dx, dy, z, r1, r2, hz, k⟩
  unfold binop at hz
  split at hz <;> try contradiction
  split at hz
  · rename_i hb
    cases hz
    exact op_mod pins s σ H x y v u Q I rx ry ⟨_, _, r1.int', r2.int', hb, k _ fun Φ => .int _⟩
  · cases hz
theorem ob_pow : OpR X (binaryOp .Pow) (rB T .pow) := by
  rintro pins s σ H x y v u Q I rx ry ⟨ρ, dx, dy, z, r1, r2, hz, k⟩
  unfold binop at hz
  split at hz <;> try contradiction
  split at hz
  · rename_i hb
    cases hz
    exact op_pow pins s σ H x y v u Q I rx ry ⟨_, _, r1.int', r2.int', ⟨hb.1, by omega, by omega⟩, k _ fun Φ => .int _⟩
  · cases hz
theorem binop_scal : ∀ {op : BOp} {x y z : D}, binop op x y = some z → scal z = true := by
  intro op x y z h
  unfold binop at h
  split at h <;> (try split at h) <;> first | contradiction | (cases h; rfl)
def opOf : BOp → Operator
  | .add => .Add | .sub => .Sub | .mul => .Mult | .fdiv => .FloorDiv | .mod => .Mod | .pow => .Pow
theorem ob_of (op : BOp) : OpR X (binaryOp (opOf op)) (rB T op) := by
  cases op
  · exact ob_add
  · exact ob_sub
  · exact ob_mul
  · exact ob_fdiv
  · exact ob_mod
  · exact ob_pow

/-! ### comparisons -/
mutual
def toP : D → PyData
  | .non => .none
  | .bl b => .bool b
  | .int i => .int i
  | .str s => .str (sv s)
  | .tup xs => .tuple (toPs xs)
  | .lst xs => .list (toPs xs)
  | _ => .none
def toPs : List D → List PyData
  | [] => []
  | x :: xs => toP x :: toPs xs
end
section
variable {ρ : List Addr} {H : Hp}
mutual
theorem Rp.dp : ∀ {d : D} {v : V}, Rp T ρ H d v → plain d = true → Dp T.K H v (toP d)
  | _, _, .non, _ => .non
  | _, _, .bl b, _ => .bl b
  | _, _, .int i, _ => .int i
  | _, _, .str s _, _ => .str _
  | _, _, .tup h l, p => .tup h (RpL.dp l (by simpa [plain] using p))
  | _, _, .lst h l, p => .lst h (RpL.dp l (by simpa [plain] using p))
  | _, _, .obj _ _ _ _, p => by simp [plain] at p
  | _, _, .loc _, p => by simp [plain] at p
theorem RpL.dp : ∀ {d : List D} {v : List V}, RpL T ρ H d v → plainL d = true → DpAll T.K H v (toPs d)
  | _, _, .nil, _ => .nil
  | _, _, .cons h l, p => by
    simp only [plainL, Bool.and_eq_true] at p
    exact .cons (Rp.dp h p.1) (RpL.dp l p.2)
end
mutual
theorem Rp.lay : ∀ {d : D} {v : V}, Rp T ρ H d v → PyData.canLay0 (toP d) = true
  | _, _, .non => rfl
  | _, _, .bl b => rfl
  | _, _, .int i => rfl
  | _, _, .str s h => by
    show PyData.strOk (sv s) = true
    unfold PyData.strOk
    simpa using h
  | _, _, .tup h l => RpL.lay l
  | _, _, .lst h l => RpL.lay l
  | _, _, .obj _ _ _ _ => rfl
  | _, _, .loc _ => rfl
theorem RpL.lay : ∀ {d : List D} {v : List V}, RpL T ρ H d v → PyData.canLayAll0 (toPs d) = true
  | _, _, .nil => rfl
  | _, _, .cons h l => by
    simp only [toPs, PyData.canLayAll0, Bool.and_eq_true]
    exact ⟨Rp.lay h, RpL.lay l⟩
end
end
mutual
theorem toP_dep : ∀ d : D, PyData.depth (toP d) ≤ dep d
  | .non => Nat.le_refl _
  | .bl b => Nat.le_refl _
  | .int i => Nat.le_refl _
  | .str s => Nat.le_refl _
  | .tup xs => Nat.succ_le_succ (toPs_dep xs)
  | .lst xs => Nat.succ_le_succ (toPs_dep xs)
  | .obj _ _ => Nat.zero_le _
  | .loc _ => Nat.zero_le _
theorem toPs_dep : ∀ d : List D, PyData.depthAll (toPs d) ≤ depL d
  | [] => Nat.le_refl _
  | x :: xs => by
    simp only [toPs, PyData.depthAll, depL]
    have h1 := toP_dep x
    have h2 := toPs_dep xs
    omega
end
mutual
theorem toP_eq : ∀ a b : D, plain a = true → plain b = true → PyData.eqv (toP a) (toP b) = eqB a b
  | .non, b, _, q => by cases b <;> first | rfl | (simp [plain] at q)
  | .bl x, b, _, q => by
    cases b <;> first | rfl | (simp [plain] at q; done) | (simp [toP, PyData.eqv, eqB, b2i]; done) | skip
    all_goals simp only [toP, PyData.eqv, eqB, b2i]; exact Bool.beq_eq_decide_eq _ _
  | .int x, b, _, q => by
    cases b <;> first | rfl | (simp [plain] at q; done) | skip
    all_goals simp only [toP, PyData.eqv, eqB, b2i]; exact Bool.beq_eq_decide_eq _ _
  | .str x, b, _, q => by
    cases b <;> first | rfl | (simp [plain] at q; done) | skip
    simp only [toP, PyData.eqv, eqB]
    rename_i y
    by_cases e : x = y
    · subst e; simp
    · rw [decide_eq_false e]
      exact beq_eq_false_iff_ne.mpr fun h => e (svInj.mp h)
  | .tup xs, b, p, q => by
    cases b with
    | tup ys => exact toPs_eq xs ys (by simpa [plain] using p) (by simpa [plain] using q)
    | obj _ _ => simp [plain] at q
    | loc _ => simp [plain] at q
    | _ => rfl
  | .lst xs, b, p, q => by
    cases b with
    | lst ys => exact toPs_eq xs ys (by simpa [plain] using p) (by simpa [plain] using q)
    | obj _ _ => simp [plain] at q
    | loc _ => simp [plain] at q
    | _ => rfl
  | .obj _ _, _, p, _ => by simp [plain] at p
  | .loc _, _, p, _ => by simp [plain] at p
theorem toPs_eq : ∀ a b : List D, plainL a = true → plainL b = true → PyData.eqvAll (toPs a) (toPs b) = eqL a b
  | [], [], _, _ => rfl
  | [], _ :: _, _, _ => rfl
  | _ :: _, [], _, _ => rfl
  | x :: xs, y :: ys, p, q => by
    simp only [plainL, Bool.and_eq_true] at p q
    simp only [toPs, PyData.eqvAll, eqL]
    rw [toP_eq x y p.1 q.1, toPs_eq xs ys p.2 q.2]
end
/-- is, of None and bools -/
def rC (T : Tb) (op : COp) : R2 := fun x y H Q => ∃ ρ dx dy z, Rp T ρ H dx x ∧ Rp T ρ H dy y ∧ cmpop op dx dy = some z ∧ Q (.bl z) H
theorem eqD_some {a b : D} {z : Bool} (h : eqD a b = some z) : plain a = true ∧ dep a ≤ 100 ∧ plain b = true ∧ eqB a b = z := by
  unfold eqD okD at h
  by_cases hc : ((plain a && decide (dep a ≤ 100)) && (plain b && decide (dep b ≤ 100))) = true
  · rw [if_pos hc] at h
    simp only [Bool.and_eq_true, decide_eq_true_eq] at hc
    exact ⟨hc.1.1, hc.1.2, hc.2.1, Option.some.inj h⟩
  · rw [if_neg hc] at h; cases h
theorem oc_eq (hK : X.K = T.K) (hu : X.A.units + 200 < cLine) : OpR X (compareOp .Eq) (rC T .eq) := by
  rintro pins s σ H x y v u Q I rx ry ⟨ρ, dx, dy, z, r1, r2, hz, k⟩
  obtain ⟨p1, d1, p2, rfl⟩ := eqD_some hz
  obtain ⟨as, q1⟩ := Dp.reads I _ x v (by rw [hK]; exact r1.dp p1) rx
  obtain ⟨bs, q2⟩ := Dp.reads I _ y u (by rw [hK]; exact r2.dp p2) ry
  refine SeqAt.compareEq_reads q1 q2 r1.lay r2.lay ?_ ⟨.bl _, H, I, rfl, ?_⟩
  · have := toP_dep dx
    omega
  · rw [toP_eq _ _ p1 p2]; exact k
theorem oc_ne (hK : X.K = T.K) (hu : X.A.units + 200 < cLine) : OpR X (compareOp .NotEq) (rC T .ne) := by
  rintro pins s σ H x y v u Q I rx ry ⟨ρ, dx, dy, z, r1, r2, hz, k⟩
  simp only [cmpop, Option.map_eq_some_iff] at hz
  obtain ⟨w, hz, rfl⟩ := hz
  obtain ⟨p1, d1, p2, rfl⟩ := eqD_some hz
  obtain ⟨as, q1⟩ := Dp.reads I _ x v (by rw [hK]; exact r1.dp p1) rx
  obtain ⟨bs, q2⟩ := Dp.reads I _ y u (by rw [hK]; exact r2.dp p2) ry
  refine SeqAt.compareNe_reads q1 q2 r1.lay r2.lay ?_ ⟨.bl _, H, I, rfl, ?_⟩
  · have := toP_dep dx
    omega
  · rw [toP_eq _ _ p1 p2]; exact k
theorem oc_lt : OpR X (compareOp .Lt) (rC T .lt) := by
  rintro pins s σ H x y v u Q I rx ry ⟨ρ, dx, dy, z, r1, r2, hz, k⟩
  unfold cmpop at hz
  split at hz <;> try contradiction
  cases hz
  exact op_lt pins s σ H x y v u Q I rx ry ⟨_, _, r1.int', r2.int', k⟩
theorem oc_le : OpR X (compareOp .LtE) (rC T .le) := by
  rintro pins s σ H x y v u Q I rx ry ⟨ρ, dx, dy, z, r1, r2, hz, k⟩
  unfold cmpop at hz
  split at hz <;> try contradiction
  cases hz
  exact op_le pins s σ H x y v u Q I rx ry ⟨_, _, r1.int', r2.int', k⟩
theorem oc_gt : OpR X (compareOp .Gt) (rC T .gt) := by
  rintro pins s σ H x y v u Q I rx ry ⟨ρ, dx, dy, z, r1, r2, hz, k⟩
  unfold cmpop at hz
  split at hz <;> try contradiction
  cases hz
  exact op_gt pins s σ H x y v u Q I rx ry ⟨_, _, r1.int', r2.int', k⟩
theorem oc_ge : OpR X (compareOp .GtE) (rC T .ge) := by
  rintro pins s σ H x y v u Q I rx ry ⟨ρ, dx, dy, z, r1, r2, hz, k⟩
  unfold cmpop at hz
  split at hz <;> try contradiction
  cases hz
  exact op_ge pins s σ H x y v u Q I rx ry ⟨_, _, r1.int', r2.int', k⟩
theorem isD_some {T : Tb} {ρ : List Addr} {H : Hp} {dx dy : D} {z : Bool} {x y : V} (r1 : Rp T ρ H dx x) (r2 : Rp T ρ H dy y) (h : isD dx dy = some z) : (y = .non ∧ decide (x = .non) = z) ∨ ∃ a b : Bool, x = .bl a ∧ y = .bl b ∧ decide (a = b) = z := by
  unfold isD at h
  split at h
  · cases h; exact .inl ⟨r2.non', by rw [r1.non'] <;> rfl⟩
  · rename_i hn
    cases h
    refine .inl ⟨r2.non', decide_eq_false fun e => ?_⟩
    subst e
    cases r1
    exact hn rfl
  · cases h; exact .inr ⟨_, _, r1.bl', r2.bl', rfl⟩
  · cases h
theorem oc_is : OpR X (compareOp .Is) (rC T .is) := by
  rintro pins s σ H x y v u Q I rx ry ⟨ρ, dx, dy, z, r1, r2, hz, k⟩
  rcases isD_some r1 r2 hz with ⟨h1, rfl⟩ | ⟨a, b, h1, h2, rfl⟩
  · exact op_isN pins s σ H x y v u Q I rx ry ⟨h1, k⟩
  · exact op_isBl pins s σ H x y v u Q I rx ry ⟨a, b, h1, h2, k⟩
theorem oc_isNot : OpR X (compareOp .IsNot) (rC T .isNot) := by
  rintro pins s σ H x y v u Q I rx ry ⟨ρ, dx, dy, z, r1, r2, hz, k⟩
  simp only [cmpop, Option.map_eq_some_iff] at hz
  obtain ⟨w, hz, rfl⟩ := hz
  rcases isD_some r1 r2 hz with ⟨h1, rfl⟩ | ⟨a, b, h1, h2, rfl⟩
  · exact op_notN pins s σ H x y v u Q I rx ry ⟨h1, k⟩
  · exact op_notBl pins s σ H x y v u Q I rx ry ⟨a, b, h1, h2, k⟩
def cmpOf : COp → CmpOp
  | .eq => .Eq | .ne => .NotEq | .lt => .Lt | .le => .LtE | .gt => .Gt | .ge => .GtE | .is => .Is | .isNot => .IsNot | .isin => .In | .notin => .NotIn
theorem oc_of (hK : X.K = T.K) (hu : X.A.units + 200 < cLine) (op : COp) : OpR X (compareOp (cmpOf op)) (rC T op) := by
  cases op
  · exact oc_eq hK hu
  · exact oc_ne hK hu
  · exact oc_lt
  · exact oc_le
  · exact oc_gt
  · exact oc_ge
  · exact oc_is
  · exact oc_isNot
  · rintro pins s σ H x y v u Q I rx ry ⟨ρ, dx, dy, z, r1, r2, hz, k⟩
    simp [cmpop] at hz
  · rintro pins s σ H x y v u Q I rx ry ⟨ρ, dx, dy, z, r1, r2, hz, k⟩
    simp [cmpop] at hz

/-! ### truth -/
theorem truth_V (hK : X.K = T.K) {ρ : List Addr} {H : Hp} {d : D} {v : V} {k : Bool} (r : Rp T ρ H d v) (h : truth d = some k) : TruV X.K v H k := by
  unfold truth at h
  split at h
  · cases h; rw [r.non'] <;> rfl
  · cases h; rw [r.bl'] <;> rfl
  · cases h; rw [r.int'] <;> rfl
  · split at h
    · rename_i s hl
      cases h
      rw [r.str']
      refine ⟨by rw [svLen]; exact limLe hl, ?_⟩
      rw [svLen]
      cases s <;> rfl
    · cases h
  · cases h
    obtain ⟨a, vs, rfl, hs, hl⟩ := r.tup'
    refine .inr (.inl ⟨vs, by rw [hK]; exact hs, ?_⟩)
    cases hl <;> rfl
  · cases h
    obtain ⟨a, vs, rfl, hs, hl⟩ := r.lst'
    refine .inl ⟨vs, by rw [hK]; exact hs, ?_⟩
    cases hl <;> rfl
  · cases h
end
end BT
end

section
/-! BtExpr2: composed expressions and tests. -/
namespace BT
open PySem PySem.Spec L2
open PyProof.Rows hiding St
set_option autoImplicit false

theorem Out.bind_assoc {α β γ : Type} (o : Out α) (f : α → S → Out β) (g : β → S → Out γ) : (o.bind f).bind g = o.bind fun a s => (f a s).bind g := by cases o <;> rfl
section
variable {T : Tb} {b b' b1 b2 : Bs} {σ : St} {s s' : S} {o o0 o1 o2 : List Addr} {ev : EV} {v : V} {W : WX} {Q : VK}
theorem EvR.out {OX : Addr → Prop} (E : EvR T b ev v o) (h : ∀ a, OX a → b.OX a) : EvR T (b.out OX) ev v o := by
  cases E with
  | own r => exact .own (r.mono (Bs.out_phi b h) (List.prefix_refl _) fun _ _ _ q => q)
  | bor r n => exact .bor (r.mono (Bs.out_phi b h) (List.prefix_refl _) fun _ _ _ q => q) n
theorem Post.shift {out : Out EV} (g0 : Go b b1 o0) (h : Post T b σ (EvR T) out Q W) : Post T b1 σ (EvR T) out Q W := by
  cases out with
  | ok a s' =>
    intro w b2 o g A E
    have sub : ∀ a ∈ o, a ∈ o0 ∨ a ∈ o := fun a m => .inr m
    refine h w (b2.out fun a => b.OX a ∨ a ∈ o) o (g0.comp g g.nd sub) (g0.atComp g sub A) (E.out fun a q => ?_)
    rcases q with q | q
    · exact (g.ox a).mpr (.inl ((g0.ox a).mpr (.inl q)))
    · exact (g.ox a).mpr (.inr q)
  | exc x s' =>
    intro c d b2 g A r
    obtain ⟨b', e, g', A', r'⟩ := g0.excOut g A r
    rw [← e]
    exact h c d b' g' A' r'
  | err => exact h
theorem Post.shiftB {out : Out Bool} {Q : Bool → Hp → Prop} (g0 : Go b b1 o0) (h : Post T b σ (fun _ t w o => w = t ∧ o = []) out Q W) : Post T b1 σ (fun _ t w o => w = t ∧ o = []) out Q W := by
  cases out with
  | ok a s' =>
    intro w b2 o g A E
    obtain ⟨rfl, rfl⟩ := E
    have sub : ∀ a ∈ ([] : List Addr), a ∈ o0 ∨ a ∈ ([] : List Addr) := fun a m => .inr m
    exact h w (b2.out fun a => b.OX a ∨ a ∈ []) [] (g0.comp g List.nodup_nil sub) (g0.atComp g sub A) ⟨rfl, rfl⟩
  | exc x s' =>
    intro c d b2 g A r
    obtain ⟨b', e, g', A', r'⟩ := g0.excOut g A r
    rw [← e]
    exact h c d b' g' A' r'
  | err => exact h
/-- the value at hand is the answer -/
theorem Post.here {s' : S} (g : Go b b' o) (A : At T b' s' σ) (E : EvR T b' ev v o) (h : Post T b σ (EvR T) (.ok ev s') Q W) : Q v b'.H := h v b' o g A E
end
section
variable {T : Tb} {C : CF} {W : WX} {X : Cx} {pos : Pos} {e f : Expr} {ca cb cc : CE}
theorem snd_bin {op : BOp} (ha : PE X e (tE T C W ca)) (hb : PE X f (tE T C W cb)) : PE X (.BinOp e (opOf op) f pos) (tE T C W (.bin op ca cb)) :=
  PE.weak (pe_op (ob_of (T := T) op) ha hb) fun σ H Q ⟨b, s, eH, A, h⟩ => by
    subst eH
    unfold evalE at h
    refine ⟨b, s, rfl, A, (Post.seq (Go.refl b) h).mono fun v H1 ⟨x, s1, b1, o1, e1, g1, A1, E1, h1⟩ => ?_⟩
    subst e1
    refine ⟨b1, s1, rfl, A1, (Post.seq g1 h1).mono fun w H2 ⟨y, s2, b2, o2, e2, g2, A2, E2, h2⟩ => ?_⟩
    subst e2
    obtain ⟨z, hz, h3⟩ := h2.liftD
    exact ⟨b2.ρ, x.d, y.d, z, (E1.move g2 (g1.dis A1)).see, E2.see, hz, fun v r => h3.fin0 (g1.trans g2) A2 (binop_scal hz) (r fun _ => none)⟩
theorem snd_neg (ha : PE X e (tE T C W ca)) : PE X (.UnaryOp .USub e pos) (tE T C W (.neg ca)) :=
  PE.weak (pe_un un_neg ha) fun σ H Q ⟨b, s, eH, A, h⟩ => by
    subst eH
    unfold evalE at h
    refine ⟨b, s, rfl, A, (Post.seq (Go.refl b) h).mono fun v H1 ⟨x, s1, b1, o1, e1, g1, A1, E1, h1⟩ => ?_⟩
    subst e1
    have see := E1.see
    split at h1
    · rename_i i e
      rw [e] at see
      exact ⟨i, see.int', h1.fin0 g1 A1 rfl (.int (Φ := fun _ => none) _)⟩
    · exact h1.elim
theorem snd_cmp {op : COp} (hK : X.K = T.K) (hu : X.A.units + 200 < cLine) (ha : PE X e (tE T C W ca)) (hb : PE X f (tE T C W cb)) (hm : behindInMarks (cmpOf op) f = false) : PE X (.Compare e [cmpOf op] [f] pos) (tE T C W (.cmp op ca cb)) :=
  PE.weak (pe_cmpR (oc_of hK hu op) ha hb hm) fun σ H Q ⟨b, s, eH, A, h⟩ => by
    subst eH
    unfold evalE at h
    refine ⟨b, s, rfl, A, (Post.seq (Go.refl b) h).mono fun v H1 ⟨x, s1, b1, o1, e1, g1, A1, E1, h1⟩ => ?_⟩
    subst e1
    refine ⟨b1, s1, rfl, A1, (Post.seq g1 h1).mono fun w H2 ⟨y, s2, b2, o2, e2, g2, A2, E2, h2⟩ => ?_⟩
    subst e2
    obtain ⟨z, hz, h3⟩ := h2.liftB
    exact ⟨b2.ρ, x.d, y.d, z, (E1.move g2 (g1.dis A1)).see, E2.see, hz, h3.fin0 (g1.trans g2) A2 rfl (.bl (Φ := fun _ => none) _)⟩
theorem snd_cmpT {op : COp} (hK : X.K = T.K) (hu : X.A.units + 200 < cLine) (ha : PE X e (tE T C W ca)) (hb : PE X f (tE T C W cb)) (hm : behindInMarks (cmpOf op) f = false) : PT X (.Compare e [cmpOf op] [f] pos) (tT T C W (.cmp op ca cb)) :=
  PT.weak (pt_cmpR (oc_of hK hu op) ha hb hm) fun σ H Q ⟨b, s, eH, A, h⟩ => by
    subst eH
    unfold evalT evalE at h
    rw [Out.bind_assoc] at h
    refine ⟨b, s, rfl, A, (Post.seq (Go.refl b) h).mono fun v H1 ⟨x, s1, b1, o1, e1, g1, A1, E1, h1⟩ => ?_⟩
    subst e1
    rw [Out.bind_assoc] at h1
    refine ⟨b1, s1, rfl, A1, (Post.seq g1 h1).mono fun w H2 ⟨y, s2, b2, o2, e2, g2, A2, E2, h2⟩ => ?_⟩
    subst e2
    cases hz : cmpop op x.d y.d with
    | none => rw [hz] at h2; exact h2.elim
    | some z =>
      rw [hz] at h2
      have g := g1.trans g2
      exact ⟨b2.ρ, x.d, y.d, z, (E1.move g2 (g1.dis A1)).see, E2.see, hz, z, rfl, h2 z (b2.out b.OX) [] g.drop (At.drop g A2) ⟨rfl, rfl⟩⟩
/-- a test by the value's truth -/
theorem snd_truth (hK : X.K = T.K) (ha : PE X e (tE T C W ca)) (he : ∀ whole, isTrue e X.env whole = (do let v ← whole; standAt e.pos; holding [v] (truthy v))) : PT X e (tT T C W ca) :=
  PT.weak (pt_truth ha he) fun σ H Q ⟨b, s, eH, A, h⟩ => by
    subst eH
    unfold evalT at h
    refine ⟨b, s, rfl, A, (Post.seq (Go.refl b) h).mono fun v H1 ⟨x, s1, b1, o1, e1, g1, A1, E1, h1⟩ => ?_⟩
    subst e1
    cases hz : truth x.d with
    | none => rw [hz] at h1; exact h1.elim
    | some z =>
      rw [hz] at h1
      exact ⟨z, truth_V hK E1.see hz, h1 z (b1.out b.OX) [] g1.drop (At.drop g1 A1) ⟨rfl, rfl⟩⟩
theorem snd_not (hK : X.K = T.K) (ha : PE X e (tE T C W ca)) : PE X (.UnaryOp .Not e pos) (tE T C W (.not ca)) :=
  PE.weak (pe_notT ha) fun σ H Q ⟨b, s, eH, A, h⟩ => by
    subst eH
    unfold evalE at h
    refine ⟨b, s, rfl, A, (Post.seq (Go.refl b) h).mono fun v H1 ⟨x, s1, b1, o1, e1, g1, A1, E1, h1⟩ => ?_⟩
    subst e1
    cases hz : truth x.d with
    | none => rw [hz] at h1; exact h1.elim
    | some z =>
      rw [hz] at h1
      exact ⟨z, truth_V hK E1.see hz, Post.fin0 (z := .bl (!z)) g1 A1 h1 rfl (.bl (Φ := fun _ => none) _)⟩
theorem snd_notT (ha : PT X e (tT T C W ca)) : PT X (.UnaryOp .Not e pos) (tT T C W (.not ca)) :=
  PT.weak (pt_not ha) fun σ H Q ⟨b, s, eH, A, h⟩ => by
    subst eH
    unfold evalT evalE at h
    rw [Out.bind_assoc] at h
    refine ⟨b, s, rfl, A, ?_⟩
    unfold evalT
    cases ho : evalE C ca s with
    | err => rw [ho] at h; exact h
    | exc x s1 => rw [ho] at h; exact h
    | ok x s1 =>
      rw [ho] at h
      simp only [Out.bind] at h ⊢
      cases hz : truth x.d with
      | none => rw [hz] at h; exact h.elim
      | some z =>
        rw [hz] at h
        intro w b' o g A' E
        obtain ⟨rfl, rfl⟩ := E
        exact h (!w) b' [] g A' ⟨rfl, rfl⟩
variable {rest : List Expr}
theorem snd_and (hK : X.K = T.K) (ha : PE X e (tE T C W ca)) (hb : PE X (.BoolOp .And (f :: rest) pos) (tE T C W cb)) : PE X (.BoolOp .And (e :: f :: rest) pos) (tE T C W (.and ca cb)) :=
  PE.weak (pe_andT ha hb) fun σ H Q ⟨b, s, eH, A, h⟩ => by
    subst eH
    unfold evalE at h
    refine ⟨b, s, rfl, A, (Post.seq (Go.refl b) h).mono fun v H1 ⟨x, s1, b1, o1, e1, g1, A1, E1, h1⟩ => ?_⟩
    subst e1
    cases hz : truth x.d with
    | none => rw [hz] at h1; exact h1.elim
    | some z =>
      rw [hz] at h1
      refine ⟨z, by rw [hK]; exact hK ▸ truth_V hK E1.see hz, ?_⟩
      cases z with
      | true => exact ⟨b1, s1, rfl, A1, Post.shift g1 h1⟩
      | false => exact Post.here g1 A1 E1 h1
theorem snd_or (hK : X.K = T.K) (ha : PE X e (tE T C W ca)) (hb : PE X (.BoolOp .Or (f :: rest) pos) (tE T C W cb)) : PE X (.BoolOp .Or (e :: f :: rest) pos) (tE T C W (.or ca cb)) :=
  PE.weak (pe_orT ha hb) fun σ H Q ⟨b, s, eH, A, h⟩ => by
    subst eH
    unfold evalE at h
    refine ⟨b, s, rfl, A, (Post.seq (Go.refl b) h).mono fun v H1 ⟨x, s1, b1, o1, e1, g1, A1, E1, h1⟩ => ?_⟩
    subst e1
    cases hz : truth x.d with
    | none => rw [hz] at h1; exact h1.elim
    | some z =>
      rw [hz] at h1
      refine ⟨z, by rw [hK]; exact hK ▸ truth_V hK E1.see hz, ?_⟩
      cases z with
      | false => exact ⟨b1, s1, rfl, A1, Post.shift g1 h1⟩
      | true => exact Post.here g1 A1 E1 h1
theorem snd_andT (ha : PT X e (tT T C W ca)) (hb : PW X (.BoolOp .And (f :: rest) pos) (tT T C W cb)) : PW X (.BoolOp .And (e :: f :: rest) pos) (tT T C W (.and ca cb)) := by
  have p := pw_and ha hb
  refine ⟨fun whole pins s σ H Q I q => p.run whole pins s σ H Q I ?_⟩
  obtain ⟨b, s, eH, A, h⟩ := q
  subst eH
  unfold evalT evalE at h
  rw [Out.bind_assoc] at h
  refine ⟨b, s, rfl, A, ?_⟩
  unfold evalT
  cases ho : evalE C ca s with
  | err => rw [ho] at h; exact h
  | exc x s1 => rw [ho] at h; exact h
  | ok x s1 =>
    rw [ho] at h
    simp only [Out.bind] at h ⊢
    cases hz : truth x.d with
    | none => rw [hz] at h; exact h.elim
    | some z =>
      rw [hz] at h
      intro w b' o g A' E
      obtain ⟨rfl, rfl⟩ := E
      cases w with
      | true => exact ⟨b', s1, rfl, A', Post.shiftB g h⟩
      | false =>
        simp only [hz] at h
        exact h false b' [] g A' ⟨rfl, rfl⟩
theorem snd_orT (ha : PT X e (tT T C W ca)) (hb : PW X (.BoolOp .Or (f :: rest) pos) (tT T C W cb)) : PW X (.BoolOp .Or (e :: f :: rest) pos) (tT T C W (.or ca cb)) := by
  have p := pw_or ha hb
  refine ⟨fun whole pins s σ H Q I q => p.run whole pins s σ H Q I ?_⟩
  obtain ⟨b, s, eH, A, h⟩ := q
  subst eH
  unfold evalT evalE at h
  rw [Out.bind_assoc] at h
  refine ⟨b, s, rfl, A, ?_⟩
  unfold evalT
  cases ho : evalE C ca s with
  | err => rw [ho] at h; exact h
  | exc x s1 => rw [ho] at h; exact h
  | ok x s1 =>
    rw [ho] at h
    simp only [Out.bind] at h ⊢
    cases hz : truth x.d with
    | none => rw [hz] at h; exact h.elim
    | some z =>
      rw [hz] at h
      intro w b' o g A' E
      obtain ⟨rfl, rfl⟩ := E
      cases w with
      | false => exact ⟨b', s1, rfl, A', Post.shiftB g h⟩
      | true =>
        simp only [hz] at h
        exact h true b' [] g A' ⟨rfl, rfl⟩
theorem snd_ife {g : Expr} (hc : PT X g (tT T C W cc)) (ha : PE X e (tE T C W ca)) (hb : PE X f (tE T C W cb)) : PE X (.IfExp g e f pos) (tE T C W (.ife cc ca cb)) :=
  PE.weak (pe_ifExp hc ha hb) fun σ H Q ⟨b, s, eH, A, h⟩ => by
    subst eH
    unfold evalE at h
    refine ⟨b, s, rfl, A, ?_⟩
    unfold evalT
    cases ho : evalE C cc s with
    | err => rw [ho] at h; exact h
    | exc x s1 => rw [ho] at h; exact h
    | ok x s1 =>
      rw [ho] at h
      simp only [Out.bind] at h ⊢
      cases hz : truth x.d with
      | none => rw [hz] at h; exact h.elim
      | some z =>
        rw [hz] at h
        intro w b' o g A' E
        obtain ⟨rfl, rfl⟩ := E
        cases w with
        | true => exact ⟨b', s1, rfl, A', Post.shift g h⟩
        | false => exact ⟨b', s1, rfl, A', Post.shift g h⟩
end
end BT
end

section
/-! BtExpr3: rows of arguments, displays, items. -/
namespace BT
open PySem PySem.Spec L2
open PyProof.Rows hiding St
set_option autoImplicit false
section
variable {T : Tb} {b b' b1 b2 : Bs} {σ : St} {s s' : S} {o o' : List Addr} {xs : List EV} {vs : List V} {W : WX}
theorem EvRs.len : ∀ {xs : List EV} {vs : List V} {o : List Addr}, EvRs T b xs vs o → xs.length = vs.length
  | _, _, _, .nil => rfl
  | _, _, _, .cons _ l => by rw [List.length_cons, List.length_cons, EvRs.len l]
theorem EvRs.frz {Φ' : Hp} (e : Same b.Φ Φ') : ∀ {xs : List EV} {vs : List V} {o : List Addr}, EvRs T b xs vs o → (∀ a ∈ o, ∀ u, b.H a = some u → Φ' a = some u) → xs.all (fun x => EV.fit 0 x || EV.free x) = true → RpL T b.ρ Φ' (xs.map EV.d) vs
  | _, _, _, .nil, _, _ => .nil
  | _, _, _, .cons (e := x) h l, q, f => by
    rw [List.all_cons, Bool.and_eq_true] at f
    refine .cons ?_ (EvRs.frz e l (fun a m => q a (List.mem_append_right _ m)) f.2)
    cases h with
    | own r => exact r.freeze e (List.prefix_refl _) fun a m => q a (List.mem_append_left _ m)
    | bor r n =>
      have f1 := f.1
      simp only [EV.fit, EV.free, Bool.or_eq_true, beq_iff_eq] at f1
      rcases f1 with f1 | f1 | f1
      · exact (r.scal f1).2.scal f1
      · exact (r.scal f1).2.scal f1
      · subst f1
        exact r.zero.2.mono e (List.prefix_refl _)
theorem EvRs.keep {k : Nat} : ∀ {xs : List EV} {vs : List V} {o : List Addr}, EvRs T b xs vs o → xs.all (EV.fit (k + 1)) = true → RpKL T b.ρ b.Φ b.H (k + 1) (xs.map EV.d) vs o
  | _, _, _, .nil, _ => .nil
  | _, _, _, .cons (e := x) h l, f => by
    rw [List.all_cons, Bool.and_eq_true] at f
    refine .cons ?_ (EvRs.keep l f.2)
    cases h with
    | own r =>
      have f1 := f.1
      simp only [EV.fit, BT.fit, Bool.or_eq_true, beq_iff_eq] at f1
      rcases f1 with (f1 | f1) | f1
      · obtain ⟨rfl, r'⟩ := r.scal f1
        exact .sc f1 r'
      · cases f1
      · subst f1; exact r
    | bor r n => exact .sc f.1 (r.scal f.1).2
theorem EvRs.see : ∀ {xs : List EV} {vs : List V} {o : List Addr}, EvRs T b xs vs o → RpL T b.ρ b.H (xs.map EV.d) vs
  | _, _, _, .nil => .nil
  | _, _, _, .cons h l => .cons h.see (EvRs.see l)
/-- what was at hand becomes frozen when it is given up -/
theorem Go.vis (g : Go b b' o) (A : At T b' s' σ) : ∀ a ∈ o, ∀ u, b'.H a = some u → (b'.out b.OX).Φ a = some u := fun a m u h => by
  unfold Bs.Φ
  rw [hid_at]
  · exact h
  · rintro (z | z)
    · exact g.no a m z
    · exact A.ox a z ((g.ox a).mpr (.inr m))
theorem Go.outLe (g : Go b b' o) : Same b'.Φ (b'.out b.OX).Φ := Bs.out_phi b' fun a q => (g.ox a).mpr (.inl q)
/-- a new object at p, owned by what is at hand -/
def Bs.fresh (b b' : Bs) (p : Addr) (h : HO) (o : List Addr) : Bs := { b' with OX := fun a => b.OX a ∨ a ∈ p :: o, H := upd b'.H p h }
theorem fresh_same {H : Hp} {p : Addr} {h : HO} (np : H p = none) : Same H (upd H p h) := fun a u e => by rw [upd_ne (ne_of_none e np)]; exact e
theorem Go.fresh {p : Addr} {h : HO} (g : Go b b' o) (A : At T b s σ) (A' : At T b' s' σ) (np : b'.H p = none) (nd : o'.Nodup) (sub : ∀ a ∈ o', a ∈ o) : Go b (b.fresh b' p h o') (p :: o') where
  adv := by
    refine ⟨fun a u e n => fresh_same np a u (g.adv.same a u e n), fun a u e => (g.adv.there a u e).imp fun u' q => fresh_same np a u' q, fun a q => (g.adv.nt a q).mono (fresh_same np), fun a m => ?_, g.adv.ssub⟩
    rcases List.mem_append.mp m with m | m
    · rcases List.mem_cons.mp m with rfl | m
      · exact .inr (g.adv.gone np)
      · exact g.adv.sub a (List.mem_append_left _ (sub a m))
    · exact g.adv.sub a (List.mem_append_right _ m)
  pre := g.pre
  h0 := g.h0
  so := g.so
  nd := by
    refine List.nodup_cons.mpr ⟨fun m => ?_, nd⟩
    obtain ⟨u, e, _⟩ := A'.oxH p ((g.ox p).mpr (.inr (sub p m)))
    rw [np] at e; cases e
  no := fun a m z => by
    rcases List.mem_cons.mp m with rfl | m
    · obtain ⟨u, e, _⟩ := A.oxH a z
      obtain ⟨u', e'⟩ := g.adv.there a u e
      rw [np] at e'; cases e'
    · exact g.no a (sub a m) z
  ox := fun a => Iff.rfl
theorem At.fresh {p : Addr} {h : HO} (g : Go b b' o) (A : At T b' s' σ) (np : b'.H p = none) (sub : ∀ a ∈ o', a ∈ o) (hT : isT h = false := by rfl) : At T (b.fresh b' p h o') s' σ := by
  have hox : ∀ a, (b.OX a ∨ a ∈ p :: o') → a = p ∨ b'.OX a := fun a z => by
    rcases z with z | z
    · exact .inr ((g.ox a).mpr (.inl z))
    · rcases List.mem_cons.mp z with z | z
      · exact .inl z
      · exact .inr ((g.ox a).mpr (.inr (sub a z)))
  have hs : Same b'.H (upd b'.H p h) := fresh_same np
  have key : Same (hid b'.H (Own b'.OX (b'.own ++ b'.sown))) (hid (upd b'.H p h) (Own (fun a => b.OX a ∨ a ∈ p :: o') (b'.own ++ b'.sown))) := hid_mono fun a u e n => by
    refine ⟨fun z => ?_, hs a u e⟩
    rcases z with z | z
    · rcases hox a z with z | z
      · rw [z, np] at e; cases e
      · exact n (.inl z)
    · exact n (.inr z)
  refine ⟨fun a u e n => hs a u (A.same a u e n), fun a u e => (A.there a u e).imp fun u' q => hs a u' q, fun a q => (A.nt a q).mono hs, A.env.mono key (List.prefix_refl _) fun a _ u q => hs a u q, A.sto.mono key (List.prefix_refl _) fun a _ u q => hs a u q, A.nd, A.new, A.snew, fun a m z => ?_, fun a z => ?_⟩
  · rcases hox a z with z | z
    · subst z
      obtain ⟨u, q, _⟩ := A.ownH a (.inr m)
      rw [np] at q; cases q
    · exact A.ox a m z
  · show Nt (upd b'.H p h) a
    rcases hox a z with z | z
    · exact ⟨h, by rw [z, upd_same], hT⟩
    · exact (A.oxH a z).mono hs
theorem Bs.fresh_phi {p : Addr} {h : HO} (g : Go b b' o) (np : b'.H p = none) (sub : ∀ a ∈ o', a ∈ o) : Same b'.Φ (b.fresh b' p h o').Φ := hid_mono fun a u e n => by
  refine ⟨fun z => ?_, fresh_same np a u e⟩
  rcases z with (z | z) | z
  · exact n (.inl ((g.ox a).mpr (.inl z)))
  · rcases List.mem_cons.mp z with z | z
    · rw [z, np] at e; cases e
    · exact n (.inl ((g.ox a).mpr (.inr (sub a z))))
  · exact n (.inr z)
/-- a new tuple at p: frozen at once -/
theorem grow_at {p : Addr} {h : HO} (A : At T b' s' σ) (np : b'.H p = none) : (b'.heap (upd b'.H p h)).Φ p = some h := by
  unfold Bs.Φ
  rw [hid_at]
  · exact upd_same
  · intro z
    obtain ⟨u, q, _⟩ := A.ownH p z
    rw [np] at q; cases q
theorem grow_phi {p : Addr} {h : HO} (np : b'.H p = none) : Same b'.Φ (b'.heap (upd b'.H p h)).Φ := hid_mono fun a u e n => ⟨n, fresh_same np a u e⟩
end
section
variable {T : Tb} {C : CF} {W : WX} {X : Cx} {pos : Pos} {e f : Expr} {ca cb cc : CE} {es : List Expr} {cs : CEs}
theorem snd_nil : PA X [] (tEs T C W .nil) := PA.weak pa_nil fun σ H Q ⟨b, s, eH, A, h⟩ => by
  subst eH
  exact h [] b [] (Go.refl b) A .nil
theorem snd_cons (ha : PE X e (tE T C W ca)) (hr : PA X es (tEs T C W cs)) (hs : starEach (e :: es) X.env = (false, eval e X.env) :: starEach es X.env) : PA X (e :: es) (tEs T C W (.cons ca cs)) :=
  PA.weak (pa_cons ha hr hs) fun σ H Q ⟨b, s, eH, A, h⟩ => by
    subst eH
    unfold evalEs at h
    refine ⟨b, s, rfl, A, (Post.seq (Go.refl b) h).mono fun v H1 ⟨x, s1, b1, o1, e1, g1, A1, E1, h1⟩ => ?_⟩
    subst e1
    refine ⟨b1, s1, rfl, A1, (Post.seq g1 h1).mono fun ws H2 ⟨ys, s2, b2, o2, e2, g2, A2, E2, h2⟩ => ?_⟩
    subst e2
    exact h2 (v :: ws) b2 (o1 ++ o2) (g1.trans g2) A2 (.cons (E1.move g2 (g1.dis A1)) E2)
theorem snd_tup {k : Nat} {x1 : Nat} (ha : PA X es (tEs T C W cs)) : PE X (.Tuple es x1 pos) (tE T C W (.tup k cs)) :=
  PE.weak (pe_tup ha) fun σ H Q ⟨b, s, eH, A, h⟩ => by
    subst eH
    unfold evalE at h
    refine ⟨b, s, rfl, A, (Post.seq (Go.refl b) h).mono fun vs H1 ⟨xs, s1, b1, o1, e1, g1, A1, E1, h1⟩ => ?_⟩
    subst e1
    cases k with
    | zero => exact h1.elim
    | succ k =>
      by_cases hc : (xs.all (EV.fit k) && decide (xs.length ≤ LIM)) = true
      · simp only [hc, if_true] at h1
        simp only [Bool.and_eq_true, decide_eq_true_eq] at hc
        refine ⟨by rw [← E1.len]; exact limLe hc.2, fun p np => ?_⟩
        cases k with
        | zero =>
          have fr := E1.frz (g1.outLe) (g1.vis A1) (by
            have := hc.1
            rw [List.all_eq_true] at this ⊢
            exact fun x m => by rw [this x m] <;> rfl)
          have A1' := At.drop g1 A1
          have np' : (b1.out b.OX).H p = none := np
          have hs : Same (b1.out b.OX).H (upd (b1.out b.OX).H p (.tup vs)) := fresh_same np'
          exact h1 (.ref p) ((b1.out b.OX).heap (upd (b1.out b.OX).H p (.tup vs))) [] (g1.drop.grows hs) (A1'.grows hs)
            (.own (.tup (SqT.of (grow_at A1' np')) (RpKL.ofL (fr.mono (grow_phi np') (List.prefix_refl _)))))
        | succ k =>
          have hs : Same b1.H (upd b1.H p (.tup vs)) := fresh_same np
          exact h1 (.ref p) (b1.heap (upd b1.H p (.tup vs))) o1 (g1.grows hs) (A1.grows hs)
            (.own (.tup (SqT.of (grow_at A1 np)) ((E1.keep hc.1).mono (grow_phi np) (List.prefix_refl _) fun a _ u q => hs a u q)))
      · simp only [hc] at h1; exact h1.elim
theorem snd_lst {k : Nat} (ha : PA X es (tEs T C W cs)) : PE X (.List es pos) (tE T C W (.lst k cs)) :=
  PE.weak (pe_lst ha) fun σ H Q ⟨b, s, eH, A, h⟩ => by
    subst eH
    unfold evalE at h
    refine ⟨b, s, rfl, A, (Post.seq (Go.refl b) h).mono fun vs H1 ⟨xs, s1, b1, o1, e1, g1, A1, E1, h1⟩ => ?_⟩
    subst e1
    cases k with
    | zero => exact h1.elim
    | succ k =>
      by_cases hc : (xs.all (EV.fit k) && decide (xs.length ≤ LIM)) = true
      · simp only [hc, if_true] at h1
        simp only [Bool.and_eq_true, decide_eq_true_eq] at hc
        refine ⟨by rw [← E1.len]; exact limLe hc.2, fun p np => ?_⟩
        cases k with
        | zero =>
          have fr := E1.frz (g1.outLe) (g1.vis A1) (by
            have := hc.1
            rw [List.all_eq_true] at this ⊢
            exact fun x m => by rw [this x m] <;> rfl)
          have sub : ∀ a ∈ ([] : List Addr), a ∈ o1 := fun a m => by simp at m
          have e : Same (b1.out b.OX).Φ (b.fresh b1 p (.lst vs) []).Φ := hid_mono fun a u e n => by
            refine ⟨fun z => ?_, fresh_same np a u e⟩
            rcases z with (z | z) | z
            · exact n (.inl z)
            · rcases List.mem_cons.mp z with z | z
              · have : b1.H a = some u := e
                rw [z, np] at this; cases this
              · simp at z
            · exact n (.inr z)
          exact h1 (.ref p) (b.fresh b1 p (.lst vs) []) [p] (g1.fresh A A1 np List.nodup_nil sub) (At.fresh g1 A1 np sub)
            (.own (.lst upd_same (RpKL.ofL (fr.mono e (List.prefix_refl _)))))
        | succ k =>
          exact h1 (.ref p) (b.fresh b1 p (.lst vs) o1) (p :: o1) (g1.fresh A A1 np g1.nd fun _ m => m) (At.fresh g1 A1 np fun _ m => m)
            (.own (.lst upd_same ((E1.keep hc.1).mono (Bs.fresh_phi g1 np fun _ m => m) (List.prefix_refl _) fun a _ u q => fresh_same np a u q)))
      · simp only [hc] at h1; exact h1.elim
theorem ixN_eq (n : Nat) (i : Int) : BT.ixN n i = L2.ixN n i := rfl
theorem RpK.item {ρ : List Addr} {Φ H : Hp} {k : Nat} {d : D} {v : V} {o : List Addr} {ds : List D} {i : Int} {j : Nat} {z : D} (r : RpK T ρ Φ H k d v o) (le : Same Φ H) (hd : d = .tup ds ∨ d = .lst ds) (hj : BT.ixN ds.length i = some j) (hz : ds[j]? = some z) :
    ∃ p vs u o3, v = .ref p ∧ (SqL T.K H p vs ∨ SqT T.K H p vs) ∧ atI vs i = some u ∧ o3.Sublist o ∧ RpK T ρ Φ H (k - 1) z u o3 := by
  have at1 : ∀ {vs : List V} {u : V}, ds.length = vs.length → vs[j]? = some u → atI vs i = some u := fun {vs u} hl hu => by
    unfold atI
    rw [← hl, ← ixN_eq, hj]
    exact hu
  cases r with
  | sc s h => rcases hd with rfl | rfl <;> cases s
  | frz h =>
    rcases hd with rfl | rfl
    · obtain ⟨p, vs, rfl, hs, hl⟩ := h.tup'
      obtain ⟨u, hu, ru⟩ := hl.get hz
      exact ⟨p, vs, u, [], rfl, .inr (same_t le hs), at1 hl.len hu, List.Sublist.refl _, .frz ru⟩
    · obtain ⟨p, vs, rfl, hs, hl⟩ := h.lst'
      obtain ⟨u, hu, ru⟩ := hl.get hz
      exact ⟨p, vs, u, [], rfl, .inl (same_l le hs), at1 hl.len hu, List.Sublist.refl _, .frz ru⟩
  | tup hs hl =>
    rcases hd with hd | hd
    · cases hd
      obtain ⟨u, o1, hu, ru, sl⟩ := hl.get hz
      exact ⟨_, _, u, o1, rfl, .inr (same_t le hs), at1 hl.len hu, sl, ru⟩
    · cases hd
  | lst hs hl =>
    rcases hd with hd | hd
    · cases hd
    · cases hd
      obtain ⟨u, o1, hu, ru, sl⟩ := hl.get hz
      exact ⟨_, _, u, o1, rfl, .inl (SqL.of hs), at1 hl.len hu, sl.trans (List.sublist_cons_self _ _), ru⟩
theorem snd_idx (hK : X.K = T.K) (ha : PE X e (tE T C W ca)) (hb : PE X f (tE T C W cb)) (hp : PlainIx f) : PE X (.Subscript e f pos) (tE T C W (.idx ca cb)) :=
  PE.weak (pe_ix ix_seq ha hb hp) fun σ H Q ⟨b, s, eH, A, h⟩ => by
    subst eH
    unfold evalE at h
    refine ⟨b, s, rfl, A, (Post.seq (Go.refl b) h).mono fun v H1 ⟨x, s1, b1, o1, e1, g1, A1, E1, h1⟩ => ?_⟩
    subst e1
    refine ⟨b1, s1, rfl, A1, (Post.seq g1 h1).mono fun w H2 ⟨y, s2, b2, o2, e2, g2, A2, E2, h2⟩ => ?_⟩
    subst e2
    cases hz : idxD x.d y.d with
    | none => rw [hz] at h2; exact h2.elim
    | some z =>
      rw [hz] at h2
      have E := E1.move g2 (g1.dis A1)
      have g := g1.trans g2
      have sY := E2.see
      have sX := E.see
      -- an item of a list, of a tuple
      have seq : ∀ (ds : List D) (i : Int), x.d = .tup ds ∨ x.d = .lst ds → y.d = .int i → ∀ j, BT.ixN ds.length i = some j → ds[j]? = some z → rIx X.K v w b2.H Q := by
        intro ds i hd hy j hj hdj
        rw [hy] at sY
        have done : ∀ {p : Addr} {vs : List V} {u : V}, v = .ref p → (SqL T.K b2.H p vs ∨ SqT T.K b2.H p vs) → atI vs i = some u → Q u b2.H → rIx X.K v w b2.H Q := fun {p vs u} hv hs ha q => by
          rw [← hK] at hs
          rcases hs with hs | hs
          · exact .inl ⟨p, vs, i, u, hv, sY.int', hs, ha, q⟩
          · exact .inr (.inl ⟨p, vs, i, u, hv, sY.int', hs, ha, q⟩)
        cases E with
        | own r =>
          obtain ⟨p, vs, u, o3, hv, hs, ha, sl, ru⟩ := r.item b2.le hd hj hdj
          refine done hv hs ha ?_
          by_cases sz : scal z = true
          · simp only [sz, if_true] at h2
            exact h2.fin0 g A2 sz (ru.scal sz).2
          · simp only [sz] at h2
            have sub : ∀ a ∈ o3, a ∈ o1 ∨ a ∈ o2 := fun a m => .inl (sl.subset m)
            refine h2 u (b2.out fun a => b.OX a ∨ a ∈ o3) o3 (g1.comp g2 (sl.nodup g1.nd) sub) (g1.atComp g2 sub A2) (.own (ru.mono (Bs.out_phi b2 fun a q => ?_) (List.prefix_refl _) fun _ _ _ q => q))
            rcases q with q | q
            · exact (g.ox a).mpr (.inl q)
            · exact (g.ox a).mpr (.inr (List.mem_append_left _ (sl.subset q)))
        | @bor k d _ o4 r n =>
          obtain ⟨p, vs, u, o3, hv, hs, ha, sl, ru⟩ := r.item b2.le hd hj hdj
          refine done hv hs ha ?_
          by_cases sz : scal z = true
          · simp only [sz, if_true] at h2
            exact h2.fin0 g A2 sz (ru.scal sz).2
          · simp only [sz] at h2
            by_cases hk : k ≤ 1
            · simp only [hk, if_true] at h2
              have k0 : k - 1 = 0 := by omega
              rw [k0] at ru
              exact h2 u (b2.out b.OX) [] g.drop (At.drop g A2) (.own (.frz (ru.zero.2.mono g.outLe (List.prefix_refl _))))
            · simp only [hk] at h2
              exact h2 u (b2.out b.OX) [] g.drop (At.drop g A2) (.bor (ru.mono g.outLe (List.prefix_refl _) fun _ _ _ q => q) fun a m => n a (sl.subset m))
      have hz' := hz
      unfold idxD at hz
      split at hz
      · rename_i ds i e1 e2
        obtain ⟨j, hj, hz⟩ := Option.bind_eq_some_iff.mp hz
        exact seq ds i (.inl e1) e2 j hj hz
      · rename_i ds i e1 e2
        obtain ⟨j, hj, hz⟩ := Option.bind_eq_some_iff.mp hz
        exact seq ds i (.inr e1) e2 j hj hz
      · rename_i t i e1 e2
        rw [e1] at sX
        rw [e2] at sY
        split at hz
        · rename_i hl
          obtain ⟨c, hc, rfl⟩ := Option.map_eq_some_iff.mp hz
          obtain ⟨j, hj, hc⟩ := Option.bind_eq_some_iff.mp hc
          refine .inr (.inr ⟨sv t, i, c, sX.str', sY.int', by rw [svLen]; exact limLe hl, ?_, ?_⟩)
          · unfold atI
            simp only [List.toList_toArray]
            rw [← ixN_eq, hj]
            exact hc
          · have hall := sX.strAll
            rw [List.all_eq_true] at hall
            have hc1 : c < 1114112 := by simpa using hall c (List.mem_of_getElem? hc)
            exact h2.fin0 g A2 rfl (.str (Φ := fun _ => none) [c] (by simp [hc1]))
        · cases hz
      · cases hz
end
end BT
end

section
/-! BtMk: what makes new lists out of what is at hand. -/
namespace BT
open PySem PySem.Spec L2
open PyProof.Rows hiding St
open AutoSeq1 (wpAny_loadPart')
set_option autoImplicit false
section
variable {X : Cx}
/-- list + list, of any lists -/
def rCatL (K : PySem.W.Frag) : R2 := fun x y H Q => ∃ l b xs zs, x = .ref l ∧ y = .ref b ∧ SqL K H l xs ∧ SqL K H b zs ∧ xs.length + zs.length ≤ sizeLine ∧ ∀ p, H p = none → Q (.ref p) (upd H p (.lst (xs ++ zs)))
theorem op_catL : OpR X (binaryOp .Add) (rCatL X.K) := by
  intro pins s σ H x y v u Q I rx ry h
  obtain ⟨l, b, xs, zs, rfl, rfl, hH, hB, hz, q⟩ := h
  cases rx
  cases ry
  obtain ⟨its, r, p1, _⟩ := I.list hH
  obtain ⟨its2, r2, p2, _⟩ := I.list hB
  have hl := p1.isList
  have hb := p2.isList
  obtain ⟨⟨cls, dd, data, sl⟩, ho, hc, n, hd⟩ := id hl
  obtain ⟨⟨cls2, dd2, data2, sl2⟩, ho2, hc2, n2, hd2⟩ := id hb
  simp only at hc hd hc2 hd2
  subst hc hd hc2 hd2
  have e : its.toArray ++ its2.toArray = (its ++ its2).toArray := by simp
  refine concat_meets ⟨_, ho, rfl⟩ ⟨_, ho2, rfl⟩ PySem.noFill_list_add PySem.seq_list_add PySem.F.slot_list_add PySem.F.entry_list_add (PySem.F.args_list_add_2 _ _)
    (list_addW l b its.toArray its2.toArray n n2 dd dd2 sl sl2 (by rw [List.size_toArray, List.size_toArray, ← r.length, ← r2.length]; exact hz)) ⟨ho, ho2, ?_⟩
  rw [e]
  exact ⟨.ref _, _, I.lnew (t' := s.toks) (r.append r2) (by rw [List.length_append]; omega), rfl, q _ I.fresh⟩
end
section
variable {T : Tb} {b b' b1 b2 : Bs} {σ : St} {s s' s1 : S} {o o' o1 : List Addr} {ds : List D} {x : EV} {v : V} {vs : List V} {W : WX} {Q : VK}
/-- a new list of frozen items is the answer -/
theorem fin_lst {p : Addr} (g1 : Go b b1 o1) (A : At T b s σ) (A1 : At T b1 s1 σ) (fr : RpL T b1.ρ (b1.out b.OX).Φ ds vs) (np : b1.H p = none) (h : Post T b σ (EvR T) (.ok (.own 1 (.lst ds)) s1) Q W) : Q (.ref p) (upd b1.H p (.lst vs)) := by
  have sub : ∀ a ∈ ([] : List Addr), a ∈ o1 := fun a m => by simp at m
  have e : Same (b1.out b.OX).Φ (b.fresh b1 p (.lst vs) []).Φ := hid_mono fun a u e n => by
    refine ⟨fun z => ?_, fresh_same np a u e⟩
    rcases z with (z | z) | z
    · exact n (.inl z)
    · rcases List.mem_cons.mp z with z | z
      · have : b1.H a = some u := e
        rw [z, np] at this; cases this
      · simp at z
    · exact n (.inr z)
  exact h (.ref p) (b.fresh b1 p (.lst vs) []) [p] (g1.fresh A A1 np List.nodup_nil sub) (At.fresh g1 A1 np sub)
    (.own (.lst upd_same (RpKL.ofL (fr.mono e (List.prefix_refl _)))))
/-- the items of a list at hand, frozen -/
theorem EvR.items (g1 : Go b b1 o1) (A1 : At T b1 s1 σ) (E : EvR T b1 x v o) (sub : ∀ a ∈ o, a ∈ o1) (hs : x.sees = true) (hd : x.d = .lst ds) : ∃ p vs, v = .ref p ∧ SqL T.K b1.H p vs ∧ RpL T b1.ρ (b1.out b.OX).Φ ds vs := by
  have le : Same (b1.out b.OX).Φ b1.H := (b1.out b.OX).le
  cases E with
  | own r =>
    have hd : _ = D.lst ds := hd
    subst hd
    obtain ⟨p, vs, rfl, hq, hl⟩ := (r.freeze g1.outLe (List.prefix_refl _) fun a m => g1.vis A1 a (sub a m)).lst'
    exact ⟨p, vs, rfl, same_l le hq, hl⟩
  | @bor k d _ o4 r n =>
    have hd : d = D.lst ds := hd
    subst hd
    have hk : k ≤ 1 := by simpa [EV.sees] using hs
    cases r with
    | sc s h => cases s
    | frz h =>
      obtain ⟨p, vs, rfl, hq, hl⟩ := (h.mono g1.outLe (List.prefix_refl _)).lst'
      exact ⟨p, vs, rfl, same_l le hq, hl⟩
    | @lst k' _ _ _ _ h hl =>
      have : k' = 0 := by omega
      subst this
      exact ⟨_, _, rfl, SqL.of h, hl.zero.2.mono g1.outLe (List.prefix_refl _)⟩
end
section
variable {T : Tb} {C : CF} {W : WX} {X : Cx} {pos : Pos} {e f : Expr} {ca cb : CE}
theorem snd_cat (hK : X.K = T.K) (ha : PE X e (tE T C W ca)) (hb : PE X f (tE T C W cb)) : PE X (.BinOp e .Add f pos) (tE T C W (.cat ca cb)) :=
  PE.weak (pe_op op_catL ha hb) fun σ H Q ⟨b, s, eH, A, h⟩ => by
    subst eH
    unfold evalE at h
    refine ⟨b, s, rfl, A, (Post.seq (Go.refl b) h).mono fun v H1 ⟨x, s1, b1, o1, e1, g1, A1, E1, h1⟩ => ?_⟩
    subst e1
    refine ⟨b1, s1, rfl, A1, (Post.seq g1 h1).mono fun w H2 ⟨y, s2, b2, o2, e2, g2, A2, E2, h2⟩ => ?_⟩
    subst e2
    split at h2
    · rename_i xs ys ex ey
      by_cases hc : (x.sees && (y.sees && decide (xs.length + ys.length ≤ LIM))) = true
      · simp only [hc, if_true] at h2
        simp only [Bool.and_eq_true, decide_eq_true_eq] at hc
        have g := g1.trans g2
        have E := E1.move g2 (g1.dis A1)
        obtain ⟨p, vs, rfl, s1', r1⟩ := E.items g A2 (fun a m => List.mem_append_left _ m) hc.1 ex
        obtain ⟨q, ws, rfl, s2', r2⟩ := E2.items g A2 (fun a m => List.mem_append_right _ m) hc.2.1 ey
        rw [← hK] at s1' s2'
        exact ⟨p, q, vs, ws, rfl, rfl, s1', s2', by rw [← r1.len, ← r2.len]; exact limLe hc.2.2, fun z np => fin_lst g A A2 (r1.app r2) np h2⟩
      · simp only [hc] at h2; exact h2.elim
    · exact h2.elim
end
end BT
end

section
/-! BtCall: calls of defs and of built-ins. -/
namespace BT
open PySem PySem.Spec L2
open PyProof.Rows hiding St
set_option autoImplicit false

/-- the store alone -/
structure AtC (T : Tb) (b : Bs) (sto : Sto) : Prop where
  sto : RpS T b.ρ b.Φ b.H sto b.ρ b.sown
  nd : b.sown.Nodup
  ox : ∀ a ∈ b.sown, ¬ b.OX a
  oxH : ∀ a, b.OX a → Nt b.H a
  own : b.own = []
def PostC (T : Tb) (b : Bs) (out : CR) (Q : VK) (E : XK) : Prop := match out with
  | .ok k d sto' => ∀ v b' o, Go b b' o → AtC T b' sto' → RpK T b'.ρ b'.Φ b'.H k d v o → Q v b'.H
  | .exc x sto' => ∀ c d b', Go b b' [] → AtC T b' sto' → RX T b'.ρ b'.Φ x c d → E c d b'.H
  | .err => False
/-- a def's promise: what the small language's call gives -/
def spC (T : Tb) (call : List D → Sto → CR) : Sp := fun vs H Q E => ∃ b ds sto, b.H = H ∧ AtC T b sto ∧ RpL T b.ρ b.Φ ds vs ∧ PostC T b (call ds sto) Q E

section
variable {T : Tb} {b b' b1 b2 : Bs} {σ : St} {s s' s1 : S} {o o' : List Addr} {xs : List EV} {vs : List V} {W : WX}
mutual
/-- plain data names no cell of the store -/
theorem Rp.plain {ρ ρ' : List Addr} {Φ : Hp} : ∀ {d : D} {v : V}, Rp T ρ Φ d v → BT.plain d = true → Rp T ρ' Φ d v
  | _, _, .non, _ => .non
  | _, _, .bl b, _ => .bl b
  | _, _, .int i, _ => .int i
  | _, _, .str s h, _ => .str s h
  | _, _, .tup h l, p => .tup h (RpL.plain l (by simpa [BT.plain] using p))
  | _, _, .lst h l, p => .lst h (RpL.plain l (by simpa [BT.plain] using p))
  | _, _, .obj _ _ _ _, p => by simp [BT.plain] at p
  | _, _, .loc _, p => by simp [BT.plain] at p
theorem RpL.plain {ρ ρ' : List Addr} {Φ : Hp} : ∀ {d : List D} {v : List V}, RpL T ρ Φ d v → plainL d = true → RpL T ρ' Φ d v
  | _, _, .nil, _ => .nil
  | _, _, .cons h l, p => by
    simp only [plainL, Bool.and_eq_true] at p
    exact .cons (Rp.plain h p.1) (RpL.plain l p.2)
end
theorem plainL_of {xs : List EV} (h : xs.all (fun e => plain e.d) = true) : plainL (xs.map EV.d) = true := by
  induction xs with
  | nil => rfl
  | cons x xs ih =>
    rw [List.all_cons, Bool.and_eq_true] at h
    simp only [List.map_cons, plainL, Bool.and_eq_true]
    exact ⟨h.1, ih h.2⟩
theorem RpL.scal {ρ : List Addr} {Φ Φ2 : Hp} : ∀ {ds : List D} {vs : List V}, RpL T ρ Φ ds vs → ds.all BT.scal = true → RpL T ρ Φ2 ds vs
  | _, _, .nil, _ => .nil
  | _, _, .cons h l, p => by
    rw [List.all_cons, Bool.and_eq_true] at p
    exact .cons (h.scal p.1) (RpL.scal l p.2)
/-- where a callee starts: what the caller owns is owned from outside -/
def Bs.callee (b b1 : Bs) : Bs := { b1 with OX := fun a => b.OX a ∨ a ∈ b1.own, own := [] }
theorem AtC.callee (g : Go b b1 o) (A : At T b1 s1 σ) : AtC T (b.callee b1) s1.sto := by
  have sub : ∀ a, (b.OX a ∨ a ∈ b1.own) → b1.OX a ∨ a ∈ b1.own := fun a z => z.imp (fun q => (g.ox a).mpr (.inl q)) id
  refine ⟨A.sto.mono (hid_less fun a z => ?_) (List.prefix_refl _) fun _ _ _ q => q, (List.nodup_append.mp A.nd).2.1, fun a m z => ?_, fun a z => ?_, rfl⟩
  · rcases z with z | z
    · rcases sub a z with z | z
      · exact .inl z
      · exact .inr (List.mem_append_left _ z)
    · exact .inr (List.mem_append_right _ z)
  · rcases sub a z with z | z
    · exact A.ox a (List.mem_append_right _ m) z
    · exact (List.nodup_append.mp A.nd).2.2 a z a m rfl
  · rcases sub a z with z | z
    · exact A.oxH a z
    · exact A.ownH a (.inr (List.mem_append_left _ z))
theorem callee_phi (b b1 : Bs) : (b.callee b1).Φ = (b1.out b.OX).Φ := by
  unfold Bs.Φ
  congr 1
  funext a
  apply propext
  constructor
  · rintro ((z | z) | z)
    · exact .inl z
    · exact .inr (List.mem_append_left _ z)
    · exact .inr (List.mem_append_right _ z)
  · rintro (z | z)
    · exact .inl (.inl z)
    · rcases List.mem_append.mp z with z | z
      · exact .inl (.inr z)
      · exact .inr z
/-- back from the callee -/
def Bs.back (b b1 b' : Bs) (o : List Addr) : Bs := { b' with OX := fun a => b.OX a ∨ a ∈ o, own := b1.own, H0 := b1.H0, so0 := b1.so0 }
theorem Go.back (g : Go b b1 o) (g' : Go (b.callee b1) b' o') (A : At T b1 s1 σ) : Go b (b.back b1 b' o') o' where
  adv := by
    refine ⟨fun a u h n => ?_, fun a u h => ?_, fun a h => ?_, fun a m => ?_, fun a m => ?_⟩
    · refine g'.adv.same a u (g.adv.same a u h n) fun m => ?_
      rcases g.adv.ssub a m with q | q
      · exact n q
      · rw [h] at q; cases q
    · obtain ⟨u', h'⟩ := g.adv.there a u h
      exact g'.adv.there a u' h'
    · exact g'.adv.nt a (g.adv.nt a h)
    · rcases List.mem_append.mp m with m | m
      · rcases g'.adv.sub a (List.mem_append_left _ m) with z | z
        · exact absurd z List.not_mem_nil
        · exact .inr (g.adv.gone z)
      · exact g.adv.sub a (List.mem_append_right _ m)
    · rcases g'.adv.ssub a m with q | q
      · exact g.adv.ssub a q
      · exact .inr (g.adv.gone q)
  pre := g.pre.trans g'.pre
  h0 := g.h0
  so := g.so
  nd := g'.nd
  no := fun a m z => g'.no a m (.inl z)
  ox := fun a => Iff.rfl
theorem back_phi (g' : Go (b.callee b1) b' o') (hb : b'.own = []) : Same b'.Φ (b.back b1 b' o').Φ := hid_less fun a z => by
  rw [hb]
  rcases z with z | z
  · refine .inl ((g'.ox a).mpr ?_)
    exact z.imp .inl id
  · rcases List.mem_append.mp z with z | z
    · exact .inl ((g'.ox a).mpr (.inl (.inr z)))
    · exact .inr z
theorem At.back {sto' : Sto} (g : Go b b1 o) (g' : Go (b.callee b1) b' o') (A : At T b1 s1 σ) (B : AtC T b' sto') : At T (b.back b1 b' o') { s1 with sto := sto' } σ := by
  have ns : ∀ a ∈ b1.own, a ∉ b1.sown := fun a m z => (List.nodup_append.mp A.nd).2.2 a m a z rfl
  have fro : ∀ a ∈ o', b1.H a = none := fun a m => (g'.adv.sub a (List.mem_append_left _ m)).elim (fun z => absurd z List.not_mem_nil) id
  have key : Same b1.Φ (b.back b1 b' o').Φ := hid_mono fun a u e n => by
    have nsn : a ∉ b1.sown := fun m => n (.inr (List.mem_append_right _ m))
    refine ⟨fun z => ?_, g'.adv.same a u e nsn⟩
    rcases z with (z | z) | z
    · exact n (.inl ((g.ox a).mpr (.inl z)))
    · rw [fro a z] at e; cases e
    · rcases List.mem_append.mp z with z | z
      · exact n (.inr (List.mem_append_left _ z))
      · rcases g'.adv.ssub a z with z | z
        · exact nsn z
        · have z : b1.H a = none := z
          rw [e] at z; cases z
  refine ⟨fun a u h n => ?_, fun a u h => ?_, fun a h => g'.adv.nt a (A.nt a h), A.env.mono key g'.pre fun a m u q => g'.adv.same a u q (ns a m), B.sto.mono (back_phi g' B.own) (List.prefix_refl _) fun _ _ _ q => q, ?_, A.new, fun a m => ?_, fun a m z => ?_, fun a z => ?_⟩
  · refine g'.adv.same a u (A.same a u h n) fun m => ?_
    rcases A.snew a m with z | z
    · exact n z
    · have h : b1.H0 a = some u := h
      rw [h] at z; cases z
  · obtain ⟨u', h'⟩ := A.there a u h
    exact g'.adv.there a u' h'
  · refine List.nodup_append.mpr ⟨(List.nodup_append.mp A.nd).1, B.nd, fun a m c mc e => ?_⟩
    subst e
    exact B.ox a mc ((g'.ox a).mpr (.inl (.inr m)))
  · rcases g'.adv.ssub a m with z | z
    · exact A.snew a z
    · exact .inr (A.gone0 z)
  · rcases List.mem_append.mp m with m | m
    · rcases z with z | z
      · exact A.ox a (List.mem_append_left _ m) ((g.ox a).mpr (.inl z))
      · exact g'.no a z (.inr m)
    · exact B.ox a m ((g'.ox a).mpr (z.imp .inl id))
  · exact B.oxH a ((g'.ox a).mpr (z.imp .inl id))
end
section
variable {T : Tb} {C : CF} {W : WX} {X : Cx} {pos p : Pos} {e : Expr} {es : List Expr} {cs : CEs} {f : Nat} {x : PySem.Str} {fa : Addr} {fd : FuncData} {ps : List PySem.Str} {k : Nat}
/-- a tuple is never hidden -/
theorem At.tupVis {b : Bs} {s : S} {σ : St} {a : Addr} {vs : List V} (A : At T b s σ) (h : Rd b.H a (.tup vs)) : Rd b.Φ a (.tup vs) := by
  have n : ¬ Own b.OX (b.own ++ b.sown) a := fun z => by
    obtain ⟨u, hu, ht⟩ := A.ownH a z
    rcases h with h | ⟨o, h⟩
    · rw [hu] at h; cases h; cases ht
    · rw [hu] at h; cases h; cases ht
  unfold Bs.Φ
  rcases h with h | ⟨o, h⟩
  · exact .inl (by rw [hid_at n]; exact h)
  · exact .inr ⟨o, by rw [hid_at n]; exact h⟩
mutual
theorem Rp.noL {ρ ρ' : List Addr} {b : Bs} {s : S} {σ : St} (A : At T b s σ) : ∀ {d : D} {v : V}, Rp T ρ b.H d v → BT.noL d = true → Rp T ρ' b.Φ d v
  | _, _, .non, _ => .non
  | _, _, .bl b, _ => .bl b
  | _, _, .int i, _ => .int i
  | _, _, .str s h, _ => .str s h
  | _, _, .tup h l, p => .tup (h.imp (fun q => A.tupVis q) id) (RpL.noL A l (by simpa [BT.noL] using p))
  | _, _, .lst h l, p => by simp [BT.noL] at p
  | _, _, .obj _ _ _ _, p => by simp [BT.noL] at p
  | _, _, .loc _, p => by simp [BT.noL] at p
theorem RpL.noL {ρ ρ' : List Addr} {b : Bs} {s : S} {σ : St} (A : At T b s σ) : ∀ {d : List D} {v : List V}, RpL T ρ b.H d v → noLL d = true → RpL T ρ' b.Φ d v
  | _, _, .nil, _ => .nil
  | _, _, .cons h l, p => by
    simp only [noLL, Bool.and_eq_true] at p
    exact .cons (Rp.noL A h p.1) (RpL.noL A l p.2)
end
/-- the arguments are evaluated, the def is called -/
theorem call_core {b : Bs} {s : S} {σ : St} {Q : VK} (A : At T b s σ) (h : Post T b σ (EvR T) (evalE C (.call f cs) s) Q W) :
    tEs T C W cs σ b.H fun vs H1 => spC T (C f) vs H1 Q (WE W σ) := by
  unfold evalE at h
  refine ⟨b, s, rfl, A, (Post.seq (Go.refl b) h).mono fun vs H1 ⟨xs, s1, b1, o1, e1, g1, A1, E1, h1⟩ => ?_⟩
  subst e1
  by_cases hf : xs.all EV.free = true
  · simp only [hf, if_true] at h1
    have fr := E1.frz (g1.outLe) (g1.vis A1) (by
      rw [List.all_eq_true] at hf ⊢
      exact fun x m => by rw [hf x m, Bool.or_true])
    refine ⟨b.callee b1, xs.map EV.d, s1.sto, rfl, AtC.callee g1 A1, by rw [callee_phi]; exact fr, ?_⟩
    cases hc : C f (xs.map EV.d) s1.sto with
    | err => rw [hc] at h1; exact h1
    | ok k d sto' =>
      rw [hc] at h1
      intro v b' o' g' B r
      exact h1 v (b.back b1 b' o') o' (g1.back g' A1) (At.back g1 g' A1 B) (.own (r.mono (back_phi g' B.own) (List.prefix_refl _) fun _ _ _ q => q))
    | exc x sto' =>
      rw [hc] at h1
      intro c d b' g' B r
      exact h1 c d (b.back b1 b' []) (g1.back g' A1) (At.back g1 g' A1 B) (r.mono (back_phi g' B.own) (List.prefix_refl _))
  · simp only [hf] at h1
    by_cases hp : xs.all (fun e => plain e.d) = true
    · simp only [hp, if_true] at h1
      let bc : Bs := { b1 with OX := fun _ => False, own := [], sown := [], ρ := [] }
      have hΦ : Same b1.H bc.Φ := fun a u q => by
        unfold Bs.Φ
        rw [hid_at]
        · exact q
        · rintro (z | z)
          · exact z
          · exact absurd z List.not_mem_nil
      refine ⟨bc, xs.map EV.d, [], rfl, ⟨.nil, List.nodup_nil, fun a m => absurd m List.not_mem_nil, fun a z => z.elim, rfl⟩, (E1.see.mono hΦ (List.prefix_refl _)).plain (plainL_of hp), ?_⟩
      have hs : ∀ {b' : Bs} {o' : List Addr}, Go bc b' o' → Same b1.H b'.H := fun {b' o'} g' a u q => g'.adv.same a u q List.not_mem_nil
      cases hc : C f (xs.map EV.d) [] with
      | err => rw [hc] at h1; exact h1
      | ok k d sto' =>
        rw [hc] at h1
        by_cases hd : noL d = true
        · simp only [hd, if_true] at h1
          intro v b' o' g' B r
          have A1' := (At.drop g1 A1).grows (hs g')
          have r0 : Rp T b'.ρ ((b1.out b.OX).heap b'.H).H d v := r.see b'.le
          exact h1 v ((b1.out b.OX).heap b'.H) [] (g1.drop.grows (hs g')) A1' (.own (.frz (r0.noL A1' hd)))
        · simp only [hd, Bool.false_eq_true, if_false] at h1
          split at h1
          · rename_i ds
            by_cases hn : noLL ds = true
            · simp only [hn, if_true] at h1
              intro v b' o' g' B r
              cases r with
              | sc s _ => cases s
              | @lst _ _ a vs o2 hH hl =>
                obtain ⟨e0, hl0⟩ := hl.zero
                subst e0
                have np : b1.H a = none := by
                  rcases g'.adv.sub a (List.mem_append_left _ List.mem_cons_self) with z | z
                  · exact absurd z List.not_mem_nil
                  · exact z
                have sub : ∀ x ∈ ([] : List Addr), x ∈ o1 := fun x m => absurd m List.not_mem_nil
                have hs2 : Same (b.fresh b1 a (.lst vs) []).H b'.H := fun x u q => by
                  by_cases z : x = a
                  · subst z
                    have q : upd b1.H x (.lst vs) x = some u := q
                    rw [upd_same] at q
                    rw [← q]; exact hH
                  · have q : upd b1.H a (.lst vs) x = some u := q
                    rw [upd_ne z] at q
                    exact hs g' x u q
                have A2 : At T ((b.fresh b1 a (.lst vs) []).heap b'.H) s1 σ := (At.fresh g1 A1 np sub).grows hs2
                have r0 : RpL T b'.ρ ((b.fresh b1 a (.lst vs) []).heap b'.H).H ds vs := hl0.mono b'.le (List.prefix_refl _)
                exact h1 (.ref a) ((b.fresh b1 a (.lst vs) []).heap b'.H) [a] ((g1.fresh A A1 np List.nodup_nil sub).grows hs2) A2 (.own (.lst hH (RpKL.ofL (r0.noL A2 hn))))
            · simp only [hn] at h1; exact h1.elim
          · exact h1.elim
      | exc x sto' =>
        rw [hc] at h1
        simp only [Bool.false_eq_true, if_false] at h1
        exact h1.elim
    · simp only [hp] at h1; exact h1.elim

/-- f(e, ..), f a def of the text -/
theorem snd_call (F : FnOk X.prog X.w X.K X.mg X.base (L2.CX X.prog X.w) k fa fd ps (spC T (C f))) (hr : Room k X.A) (hg : Gl X x) (hm : X.mg x = some (.ref fa)) (hk : PySem.W.keepIn X.K (.ref fa) = true) (hb : Binds X.K fd ps []) (tk : Takes X W)
    (ha : PA X (e :: es) (tEs T C W cs)) (hdb : (x == ("__debug__" : PySem.Str)) = false) (he : starEach (e :: es) X.env = (false, eval e X.env) :: starEach es X.env) (hpl : (backTo pos (starEach es X.env)).any (·.1) = false) :
    PE X (.Call (.Name x p) (e :: es) [] pos) (tE T C W (.call f cs)) :=
  PE.weak (pe_callSD (dvs := []) (E := WE W) F hr hg hm hk hb .nil (fun σ => passAt tk σ) ha hdb he hpl) fun σ H Q ⟨b, s, eH, A, h⟩ => by
    subst eH
    obtain ⟨b', s', e1, A', h'⟩ := call_core A h
    exact ⟨b', s', e1, A', h'.mono fun vs H1 q => by rw [List.append_nil]; exact q⟩

/-! ### built-ins -/
/-- a built-in's answer is a scalar that the data tell -/
def rBI (T : Tb) (f : BI) : List V → Hp → VK → Prop := fun vs H Q => ∃ ρ ds z, RpL T ρ H ds vs ∧ biD f ds = some z ∧ ∀ v, (∀ Φ, Rp T ρ Φ z v) → Q v H
theorem biD_scal {f : BI} {ds : List D} {z : D} (h : biD f ds = some z) : scal z = true := by
  unfold biD at h
  split at h <;> (try split at h) <;> first | contradiction | (cases h; rfl)
theorem bi_weak {f : BI} {b : Bs} {s : S} {σ : St} {Q : VK} (A : At T b s σ) (h : Post T b σ (EvR T) (evalE C (.bi f cs) s) Q W) : tEs T C W cs σ b.H fun vs H1 => rBI T f vs H1 Q := by
  unfold evalE at h
  refine ⟨b, s, rfl, A, (Post.seq (Go.refl b) h).mono fun vs H1 ⟨xs, s1, b1, o1, e1, g1, A1, E1, h1⟩ => ?_⟩
  subst e1
  obtain ⟨z, hz, h2⟩ := h1.liftD
  exact ⟨b1.ρ, xs.map EV.d, z, E1.see, hz, fun v r => h2.fin0 g1 A1 (biD_scal hz) (r fun _ => none)⟩
theorem cr_len (hK : X.K = T.K) : CallR X (.builtin "len") (rBI T .len) := by
  rintro pins s σ H vs us Q I r ⟨ρ, ds, z, rl, hz, k⟩
  unfold biD at hz
  split at hz <;> try contradiction
  · rename_i t
    split at hz
    · rename_i hl
      cases hz
      cases rl with
      | cons h l =>
        cases l
        rw [h.str'] at r
        refine call_len pins s σ H _ us Q I r ⟨_, _, rfl, ⟨by rw [svLen]; exact limLe hl, rfl⟩, ?_⟩
        rw [svLen]
        exact k _ fun Φ => .int _
    · cases hz
  · cases hz
    cases rl with
    | cons h l =>
      cases l
      obtain ⟨a, ws, rfl, hs, hl⟩ := h.tup'
      refine call_len pins s σ H _ us Q I r ⟨_, _, rfl, .inr ⟨ws, by rw [hK]; exact hs, rfl⟩, ?_⟩
      rw [← hl.len]
      exact k _ fun Φ => .int _
  · cases hz
    cases rl with
    | cons h l =>
      cases l
      obtain ⟨a, ws, rfl, hs, hl⟩ := h.lst'
      refine call_len pins s σ H _ us Q I r ⟨_, _, rfl, .inl ⟨ws, by rw [hK]; exact hs, rfl⟩, ?_⟩
      rw [← hl.len]
      exact k _ fun Φ => .int _
theorem cr_int : CallR X (.type "int") (rBI T .int) := by
  rintro pins s σ H vs us Q I r ⟨ρ, ds, z, rl, hz, k⟩
  unfold biD at hz
  split at hz <;> try contradiction
  · cases hz
    cases rl with
    | cons h l => cases l; rw [h.int'] at r; exact call_int1 pins s σ H _ us Q I r (.inl ⟨_, rfl, k _ fun Φ => .int _⟩)
  · cases hz
    cases rl with
    | cons h l => cases l; rw [h.bl'] at r; exact call_int1 pins s σ H _ us Q I r (.inr ⟨_, rfl, k _ fun Φ => .int _⟩)
theorem cr_abs : CallR X (.builtin "abs") (rBI T .abs) := by
  rintro pins s σ H vs us Q I r ⟨ρ, ds, z, rl, hz, k⟩
  unfold biD at hz
  split at hz <;> try contradiction
  cases hz
  cases rl with
  | cons h l => cases l; rw [h.int'] at r; exact call_abs pins s σ H _ us Q I r ⟨_, rfl, k _ fun Φ => .int _⟩
theorem cr_gcdB : CallR X (.builtin "math.gcd") (rBI T .gcd) := by
  rintro pins s σ H vs us Q I r ⟨ρ, ds, z, rl, hz, k⟩
  unfold biD at hz
  split at hz <;> try contradiction
  cases hz
  cases rl with
  | cons h l =>
    cases l with
    | cons h' l =>
      cases l
      rw [h.int', h'.int'] at r
      exact L2.cr_gcd pins s σ H _ us Q I r ⟨_, _, rfl, k _ fun Φ => .int _⟩
theorem cr_max2 (hc : X.calm = true) : CallR X (.builtin "max") (rBI T .max2) := by
  rintro pins s σ H vs us Q I r ⟨ρ, ds, z, rl, hz, k⟩
  unfold biD at hz
  split at hz <;> try contradiction
  cases hz
  cases rl with
  | cons h l =>
    cases l with
    | cons h' l =>
      cases l
      rw [h.int', h'.int'] at r
      exact call_max2 hc pins s σ H _ us Q I r ⟨_, _, rfl, k _ fun Φ => .int _⟩
theorem cr_min2 (hc : X.calm = true) : CallR X (.builtin "min") (rBI T .min2) := by
  rintro pins s σ H vs us Q I r ⟨ρ, ds, z, rl, hz, k⟩
  unfold biD at hz
  split at hz <;> try contradiction
  cases hz
  cases rl with
  | cons h l =>
    cases l with
    | cons h' l =>
      cases l
      rw [h.int', h'.int'] at r
      exact call_min2 hc pins s σ H _ us Q I r ⟨_, _, rfl, k _ fun Φ => .int _⟩
/-- the type's name -/
def tyName : Ty → String
  | .int => "int" | .bool => "bool" | .str => "str" | .tuple => "tuple" | .list => "list"
def typOf : D → String
  | .non => "NoneType" | .bl _ => "bool" | .int _ => "int" | .str _ => "str" | .tup _ => "tuple" | .lst _ => "list" | _ => ""
theorem kit_of_isi (t : Ty) (d : D) (b : Bool) (h : isiD t d = some b) : kitB (typOf d) (tyName t) = some b := by
  cases t <;> cases d <;> simp [isiD] at h <;> subst h <;> simp only [typOf, tyName] <;> decide +kernel
theorem tyx_of {ρ : List Addr} {H : Hp} {d : D} {v : V} (r : Rp T ρ H d v) (hd : ∀ c fs, d ≠ .obj c fs) (hl : ∀ l, d ≠ .loc l) : TyX T.K H v (.type (typOf d)) := by
  cases r with
  | non => exact .base .non
  | bl b => exact .base (.bl b)
  | int i => exact .base (.int i)
  | str s _ => exact .base (.str _)
  | tup h _ =>
    rcases h with (h | ⟨o, h⟩) | ⟨o, its, n, h, c, _⟩
    · exact .base (.tup h)
    · exact .fTuple h
    · exact .kTuple h c
  | lst h _ =>
    rcases h with (h | ⟨o, h⟩) | ⟨o, its, n, h, c, _⟩
    · exact .base (.lst h)
    · exact .base (.frz h)
    · exact .kList h c
  | obj _ _ _ _ => exact absurd rfl (hd _ _)
  | loc _ => exact absurd rfl (hl _)
def rIsT (T : Tb) (t : Ty) : List V → Hp → VK → Prop := fun vs H Q => ∃ ρ d v b, vs = [v, .ty (tyName t)] ∧ Rp T ρ H d v ∧ isiD t d = some b ∧ Q (.bl b) H
theorem cr_isT (hK : X.K = T.K) (t : Ty) : CallR X (.builtin "isinstance") (rIsT T t) := by
  rintro pins s σ H vs us Q I r ⟨ρ, d, v, b, rfl, rd, hb, q⟩
  have h1 : ∀ c fs, d ≠ .obj c fs := fun c fs e => by subst e; cases t <;> simp [isiD] at hb
  have h2 : ∀ l, d ≠ .loc l := fun l e => by subst e; cases t <;> simp [isiD] at hb
  exact call_isi pins s σ H _ us Q I r ⟨v, .ty (tyName t), _, _, b, rfl, .ty _, by rw [hK]; exact tyx_of rd h1 h2, kit_ty (kit_of_isi t d b hb), q⟩
end
end BT
end

section
/-! BtStmt: statements. -/
namespace BT
open PySem PySem.Spec L2
open PyProof.Rows hiding St
set_option autoImplicit false

/-- from b to b', over any statements -/
structure GoS (b b' : Bs) (o : List Addr) : Prop where
  pre : b.ρ <+: b'.ρ
  h0 : b'.H0 = b.H0
  so : b'.so0 = b.so0
  phi : Same b.Φ b'.Φ
  nd : o.Nodup
  no : ∀ a ∈ o, ¬ b.OX a
  new : ∀ a ∈ o, b.H0 a = none
  ox : ∀ a, b'.OX a ↔ (b.OX a ∨ a ∈ o)
section
variable {T : Tb} {b b' b1 b2 : Bs} {σ : St} {s s' s1 : S} {o o' : List Addr} {W : WX}
theorem Go.toS (g : Go b b' o) (A : At T b s σ) : GoS b b' o := ⟨g.pre, g.h0, g.so, g.phi, g.nd, g.no, fun a m => (g.adv.sub a (List.mem_append_left _ m)).elim (A.new a) A.gone0, g.ox⟩
theorem GoS.refl (b : Bs) : GoS b b [] := ⟨List.prefix_refl _, rfl, rfl, Same.refl _, List.nodup_nil, fun _ m => by simp at m, fun _ m => by simp at m, fun a => by simp⟩
theorem GoS.trans (g1 : GoS b b1 []) (g2 : GoS b1 b2 o) : GoS b b2 o := by
  have e : ∀ a, b1.OX a ↔ b.OX a := fun a => by rw [g1.ox]; simp
  exact ⟨g1.pre.trans g2.pre, g2.h0.trans g1.h0, g2.so.trans g1.so, g1.phi.trans g2.phi, g2.nd, fun a m z => g2.no a m ((e a).mpr z), fun a m => by rw [← g1.h0]; exact g2.new a m, fun a => by rw [g2.ox, e]⟩
end
def PostS (T : Tb) (b : Bs) (fl : Fl) (D : Ends) (W : WX) : Prop := match fl with
  | .next s' => ∀ σ' b', GoS b b' [] → At T b' s' σ' → D.nx σ' b'.H
  | .brk s' => ∀ σ' b', GoS b b' [] → At T b' s' σ' → D.bk σ' b'.H
  | .cont s' => ∀ σ' b', GoS b b' [] → At T b' s' σ' → D.ct σ' b'.H
  | .ret k d sto => ∀ v σ' b' o s', s'.sto = sto → GoS b b' o → At T b' s' σ' → RpK T b'.ρ b'.Φ b'.H k d v o → D.rt v b'.H
  | .exc x s' => ∀ σ' c d b', GoS b b' [] → At T b' s' σ' → RX T b'.ρ b'.Φ x c d → W c d σ' b'.H
  | .err => False
def tS (T : Tb) (C : CF) (Wf : Nat) (W : WX) (c : CS) : TS := fun D σ H => ∃ b s, b.H = H ∧ At T b s σ ∧ PostS T b (evalS C Wf c s) D W
def tSs (T : Tb) (C : CF) (Wf : Nat) (W : WX) (c : CSs) : TS := fun D σ H => ∃ b s, b.H = H ∧ At T b s σ ∧ PostS T b (evalSs C Wf c s) D W

section
variable {α ω : Type} {T : Tb} {b b0 b' b1 b2 : Bs} {σ : St} {s s' s1 : S} {o o0 o' : List Addr} {W : WX} {D : Ends} {R : Bs → α → ω → List Addr → Prop}
theorem PostS.shift {fl : Fl} (h : PostS T b fl D W) (g : GoS b b1 []) : PostS T b1 fl D W := by
  cases fl with
  | next s' => exact fun σ' b' g' A => h σ' b' (g.trans g') A
  | brk s' => exact fun σ' b' g' A => h σ' b' (g.trans g') A
  | cont s' => exact fun σ' b' g' A => h σ' b' (g.trans g') A
  | ret k d sto => exact fun v σ' b' o s' e g' A r => h v σ' b' o s' e (g.trans g') A r
  | exc x s' => exact fun σ' c d b' g' A r => h σ' c d b' (g.trans g') A r
  | err => exact h
/-- an evaluation ahead of a statement's work (g0: what was evaluated before) -/
theorem PostS.seq {out : Out α} {f : α → S → Fl} (A0 : At T b0 s σ) (g0 : Go b0 b o0) (h : PostS T b0 (out.fl f) D W) :
    Post T b σ R out (fun w H' => ∃ a s' b' o, b'.H = H' ∧ Go b b' o ∧ At T b' s' σ ∧ R b' a w o ∧ PostS T b0 (f a s') D W) W := by
  cases out with
  | ok a s' => exact fun w b' o g A r => ⟨a, s', b', o, rfl, g, A, r, h⟩
  | exc x s' =>
    intro c d b2 g A r
    obtain ⟨b', e, g', A', r'⟩ := g0.excOut g A r
    rw [← e]
    exact h σ c d b' (g'.toS A0) A' r'
  | err => exact h
/-- a value at hand goes into a slot -/
theorem At.put {OX : Addr → Prop} {i k : Nat} {d : BT.D} {v : V} (A : At T b s σ) (hi : i < s.env.length) (hox : ∀ a, b.OX a ↔ OX a ∨ a ∈ o) (nd : o.Nodup) (no : ∀ a ∈ o, ¬ OX a) (new : ∀ a ∈ o, b.H0 a = none) (r : RpK T b.ρ b.Φ b.H k d v o) :
    ∃ own', At T { b with OX := OX, own := own' } { s with env := s.env.set i (some (k, d)) } (σ.set i (some v)) ∧ Same b.Φ { b with OX := OX, own := own' : Bs }.Φ := by
  obtain ⟨p, m, q, e1, e4⟩ := RpE.put A.env hi
  have nd0 : ((p ++ m ++ q) ++ b.sown).Nodup := by rw [← e1]; exact A.nd
  have ox : ∀ a, a ∈ p ++ m ++ q ∨ a ∈ b.sown → ¬ b.OX a := fun a h => A.ox a (by rw [e1]; exact List.mem_append.mpr h)
  have hΦ : Same (hid b.H (Own b.OX (b.own ++ b.sown))) (hid b.H (Own OX ((p ++ o ++ q) ++ b.sown))) := hid_less fun a z => by
    rcases z with z | z
    · exact .inl ((hox a).mpr (.inl z))
    · simp only [List.mem_append] at z
      rcases z with ((z | z) | z) | z
      · exact .inr (by rw [e1]; simp [z])
      · exact .inl ((hox a).mpr (.inr z))
      · exact .inr (by rw [e1]; simp [z])
      · exact .inr (by simp [z])
  have dj : ∀ a ∈ o, ∀ c, c ∈ p ∨ c ∈ q ∨ c ∈ b.sown → a ≠ c := fun a ha c hc e => by
    subst e
    refine ox a ?_ ((hox a).mpr (.inr ha))
    simp only [List.mem_append]
    rcases hc with hc | hc | hc <;> simp [hc]
  simp only [List.nodup_append, List.mem_append] at nd0
  obtain ⟨⟨⟨n1, n2, n3⟩, n4, n5⟩, n6, n7⟩ := nd0
  refine ⟨p ++ o ++ q, ⟨A.same, A.there, A.nt, e4 hΦ (List.prefix_refl _) (fun _ _ _ h => h) k d v o (r.mono hΦ (List.prefix_refl _) fun _ _ _ h => h), A.sto.mono hΦ (List.prefix_refl _) fun _ _ _ h => h, ?_, fun a ha => ?_, A.snew, fun a ha z => ?_, fun a z => ?_⟩, hΦ⟩
  · simp only [List.nodup_append, List.mem_append]
    exact ⟨⟨⟨n1, nd, fun a ha c hc e => dj c hc a (.inl ha) e.symm⟩, n4, fun a ha c hc e => ha.elim (fun ha => n5 a (.inl ha) c hc e) fun ha => dj a ha c (.inr (.inl hc)) e⟩, n6, fun a ha c hc e => (ha.elim (Or.elim · (fun ha => n7 a (.inl (.inl ha)) c hc e) fun ha => dj a ha c (.inr (.inr hc)) e) fun ha => n7 a (.inr ha) c hc e)⟩
  · simp only [List.mem_append] at ha
    rcases ha with (ha | ha) | ha
    · exact A.new a (by rw [e1]; simp [ha])
    · exact new a ha
    · exact A.new a (by rw [e1]; simp [ha])
  · simp only [List.mem_append] at ha
    rcases ha with ((ha | ha) | ha) | ha
    · exact ox a (by simp [ha]) ((hox a).mpr (.inl z))
    · exact no a ha z
    · exact ox a (by simp [ha]) ((hox a).mpr (.inl z))
    · exact ox a (by simp [ha]) ((hox a).mpr (.inl z))
  · exact A.oxH a ((hox a).mpr (.inl z))
/-- the slot that holds the evaluated value; where one stands then -/
theorem Go.put {i k : Nat} {d : BT.D} {v : V} (A0 : At T b s σ) (g : Go b b' o) (A : At T b' s' σ) (hi : i < s'.env.length) (r : RpK T b'.ρ b'.Φ b'.H k d v o) :
    ∃ b2, b2.H = b'.H ∧ GoS b b2 [] ∧ At T b2 { s' with env := s'.env.set i (some (k, d)) } (σ.set i (some v)) := by
  have gs := g.toS A0
  obtain ⟨own', A', h⟩ := At.put A hi g.ox g.nd g.no (fun a m => by rw [g.h0]; exact gs.new a m) r
  exact ⟨{ b' with OX := b.OX, own := own' }, rfl, ⟨g.pre, g.h0, g.so, g.phi.trans h, List.nodup_nil, fun _ m => by simp at m, fun _ m => by simp at m, fun a => by simp⟩, A'⟩
theorem EvR.scal {x : EV} {v : V} (E : EvR T b x v o) (s : BT.scal x.d = true) : o = [] ∧ Rp T b.ρ b.Φ x.d v := by
  cases E with
  | own r => exact r.scal s
  | bor r _ => exact ⟨rfl, (r.scal s).2⟩
end
section
variable {T : Tb} {C : CF} {Wf : Nat} {W : WX} {X : Cx} {pos : Pos} {e f : Expr} {ce cf : CE} {st : Stmt} {sts : List Stmt} {cs : CS} {css c2 : CSs}
theorem ss_pass : PS X (.Pass pos) (tS T C Wf W .pass) := PS.weak ps_pass fun D σ H ⟨b, s, eH, A, h⟩ => by
  subst eH; exact h σ b (GoS.refl b) A
theorem ss_brk : PS X (.Break pos) (tS T C Wf W .brk) := PS.weak ps_break fun D σ H ⟨b, s, eH, A, h⟩ => by
  subst eH; exact h σ b (GoS.refl b) A
theorem ss_cont : PS X (.Continue pos) (tS T C Wf W .cont) := PS.weak ps_continue fun D σ H ⟨b, s, eH, A, h⟩ => by
  subst eH; exact h σ b (GoS.refl b) A
theorem ss_retN : PS X (.Return none pos) (tS T C Wf W .retN) := PS.weak ps_retN fun D σ H ⟨b, s, eH, A, h⟩ => by
  subst eH; exact h .non σ b [] s rfl (GoS.refl b) A (.sc rfl .non)
theorem sss_nil : PSs X [] (tSs T C Wf W .nil) := PSs.weak pss_nil fun D σ H ⟨b, s, eH, A, h⟩ => by
  subst eH; exact h σ b (GoS.refl b) A
theorem sss_cons (h1 : PS X st (tS T C Wf W cs)) (h2 : PSs X sts (tSs T C Wf W css)) : PSs X (st :: sts) (tSs T C Wf W (.cons cs css)) := PSs.weak (pss_cons h1 h2) fun D σ H ⟨b, s, eH, A, h⟩ => by
  subst eH
  unfold evalSs at h
  refine ⟨b, s, rfl, A, ?_⟩
  cases hf : evalS C Wf cs s with
  | next s' =>
    rw [hf] at h
    exact fun σ' b' g A' => ⟨b', s', rfl, A', h.shift g⟩
  | brk s' => rw [hf] at h; exact h
  | cont s' => rw [hf] at h; exact h
  | ret k d sto => rw [hf] at h; exact h
  | exc x s' => rw [hf] at h; exact h
  | err => rw [hf] at h; exact h
theorem ss_ret (he : PE X e (tE T C W ce)) : PS X (.Return (some e) pos) (tS T C Wf W (.ret ce)) := PS.weak (ps_ret he) fun D σ H ⟨b, s, eH, A, h⟩ => by
  subst eH
  unfold evalS at h
  refine ⟨b, s, rfl, A, (PostS.seq A (Go.refl b) h).mono fun v H1 ⟨x, s1, b1, o1, e1, g1, A1, E1, h1⟩ => ?_⟩
  subst e1
  cases E1 with
  | own r => exact h1 v σ b1 o1 s1 rfl (g1.toS A) A1 r
  | @bor k d _ o4 r n =>
    by_cases hd : scal d = true
    · simp only [hd, if_true] at h1
      exact h1 v σ b1 [] s1 rfl (g1.toS A) A1 (.sc hd (r.scal hd).2)
    · simp only [hd] at h1; exact h1.elim
theorem ss_expr (he : PE X e (tE T C W ce)) (hs : swapsWith e none pos.line X.env = pure false) : PS X (.Expr e pos) (tS T C Wf W (.expr ce)) := PS.weak (ps_expr he hs) fun D σ H ⟨b, s, eH, A, h⟩ => by
  subst eH
  unfold evalS at h
  refine ⟨b, s, rfl, A, (PostS.seq A (Go.refl b) h).mono fun v H1 ⟨x, s1, b1, o1, e1, g1, A1, E1, h1⟩ => ?_⟩
  subst e1
  exact h1 σ (b1.out b.OX) (g1.drop.toS A) (At.drop g1 A1)
theorem ss_set {i : Nat} {x : PySem.Str} {pos' : Pos} (hN : X.N.Nodup) (hi : X.N[i]? = some x) (hx : Loc X.env.scope x) (hf : X.fn x = true) (he : PE X e (tE T C W ce)) (hs : swapsWith e (some (.Name x pos')) pos.line X.env = pure false) :
    PS X (.Assign [.Name x pos'] e pos) (tS T C Wf W (.asg (.name i) ce)) := PS.weak (ps_set hN hi hx he hs (.inl hf)) fun D σ H ⟨b, s, eH, A, h⟩ => by
  subst eH
  unfold evalS at h
  refine ⟨b, s, rfl, A, (PostS.seq A (Go.refl b) h).mono fun v H1 ⟨x, s1, b1, o1, e1, g1, A1, E1, h1⟩ => ?_⟩
  subst e1
  have go : ∀ {k : Nat} {d : BT.D}, RpK T b1.ρ b1.Φ b1.H k d v o1 → PostS T b (optFl (assign (.name i) k d s1)) D W → D.nx (σ.set i (some v)) b1.H := fun {k d} r h1 => by
    unfold assign at h1
    by_cases hl : i < s1.env.length
    · simp only [hl, if_true] at h1
      obtain ⟨b2, e2, g2, A2⟩ := Go.put A g1 A1 hl r
      rw [← e2]
      exact h1 _ b2 g2 A2
    · simp only [hl] at h1; exact h1.elim
  cases E1 with
  | own r => exact go r h1
  | @bor k d _ o4 r n =>
    by_cases hd : scal d = true
    · simp only [hd, if_true] at h1
      exact go (.sc hd (r.scal hd).2) h1
    · simp only [hd] at h1; exact h1.elim
theorem ss_if (hc : PT X e (tT T C W ce)) (ha : PSs X sts (tSs T C Wf W css)) {b' : List Stmt} (hb : PSs X b' (tSs T C Wf W c2)) : PS X (.If e sts b' pos) (tS T C Wf W (.ifs ce css c2)) := PS.weak (ps_if hc ha hb) fun D σ H ⟨b, s, eH, A, h⟩ => by
  subst eH
  unfold evalS at h
  refine ⟨b, s, rfl, A, (PostS.seq A (Go.refl b) h).mono fun w H1 ⟨t, s1, b1, o1, e1, g1, A1, E1, h1⟩ => ?_⟩
  subst e1
  obtain ⟨rfl, rfl⟩ := E1
  cases w with
  | true => exact ⟨b1, s1, rfl, A1, h1.shift (g1.toS A)⟩
  | false => exact ⟨b1, s1, rfl, A1, h1.shift (g1.toS A)⟩
end
end BT
end

section
/-! BtStmt2: several targets, changes in place. -/
namespace BT
open PySem PySem.Spec L2
open PyProof.Rows hiding St
set_option autoImplicit false
section
variable {T : Tb} {b b' b1 : Bs} {σ : St} {s s' s1 : S} {o : List Addr} {W : WX} {D : Ends}
/-- the parts of a value go into slots, one after another -/
theorem At.puts {OX : Addr → Prop} {k : Nat} : ∀ {is : List Nat} {ds : List BT.D} {vs : List V} {o : List Addr} {b : Bs} {s : S} {σ : St}, At T b s σ → is.length = ds.length → (∀ i ∈ is, i < s.env.length) → (∀ a, b.OX a ↔ OX a ∨ a ∈ o) → o.Nodup → (∀ a ∈ o, ¬ OX a) → (∀ a ∈ o, b.H0 a = none) →
    RpKL T b.ρ b.Φ b.H k ds vs o →
    ∃ own', At T { b with OX := OX, own := own' } { s with env := (is.zip ds).foldl (fun env p => env.set p.1 (some (k, p.2))) s.env } ((is.zip vs).foldl (fun σ p => σ.set p.1 (some p.2)) σ) ∧ Same b.Φ { b with OX := OX, own := own' : Bs }.Φ := by
  intro is
  induction is with
  | nil =>
    intro ds vs o b s σ A hl hi hox nd no new l
    cases l with
    | nil => exact ⟨b.own, A.weak fun a q => (hox a).mpr (.inl q), hid_less fun a q => q.imp (fun z => (hox a).mpr (.inl z)) id⟩
    | cons _ _ => simp at hl
  | cons i is ih =>
    intro ds vs o b s σ A hl hi hox nd no new l
    cases l with
    | nil => simp at hl
    | @cons _ d v ds vs o1 o2 r l =>
      have nd' := List.nodup_append.mp nd
      have hox1 : ∀ a, b.OX a ↔ (OX a ∨ a ∈ o2) ∨ a ∈ o1 := fun a => by
        rw [hox, List.mem_append]
        constructor
        · rintro (z | z | z)
          · exact .inl (.inl z)
          · exact .inr z
          · exact .inl (.inr z)
        · rintro ((z | z) | z)
          · exact .inl z
          · exact .inr (.inr z)
          · exact .inr (.inl z)
      obtain ⟨own1, A1, h1⟩ := At.put (OX := fun a => OX a ∨ a ∈ o2) A (hi i List.mem_cons_self) hox1 nd'.1 (fun a m z => z.elim (no a (List.mem_append_left _ m)) fun z => nd'.2.2 a m a z rfl) (fun a m => new a (List.mem_append_left _ m)) r
      obtain ⟨own2, A2, h2⟩ := ih A1 (by simpa using hl) (fun j hj => by
          show j < (s.env.set i _).length
          rw [List.length_set]
          exact hi j (List.mem_cons_of_mem _ hj)) (fun a => Iff.rfl) nd'.2.1 (fun a m => no a (List.mem_append_right _ m)) (fun a m => new a (List.mem_append_right _ m)) (l.mono h1 (List.prefix_refl _) fun _ _ _ q => q)
      exact ⟨own2, A2, h1.trans h2⟩
end
section
variable {T : Tb} {C : CF} {Wf : Nat} {W : WX} {X : Cx} {pos : Pos} {e f : Expr} {ce cf : CE}
/-- the targets' reading: slots in a row -/
def gSlots : List Nat → TGs
  | [] => gNil
  | i :: is => gCons (gName i) (gSlots is)
theorem gSlots_go : ∀ {is : List Nat} {vs : List V} {σ : St} {H : Hp} {Q : St → Hp → Prop}, is.length = vs.length → Q ((is.zip vs).foldl (fun σ p => σ.set p.1 (some p.2)) σ) H → gSlots is vs σ H Q
  | [], [], _, _, _, _, q => ⟨rfl, q⟩
  | i :: is, v :: vs, _, _, _, h, q => ⟨v, vs, rfl, gSlots_go (by simpa using h) q⟩
theorem ss_unp {is : List Nat} {tg : List Expr} {kt : Nat} {pt : Pos} (hK : X.K = T.K) (he : PE X e (tE T C W ce)) (hg : PG X (.Tuple tg kt pt) (gTup X.K is.length (gSlots is))) (hs : swapsWithSole [.Tuple tg kt pt] e pos.line X.env = pure false) (hw : swappedStores [.Tuple tg kt pt] e X.env = pure none) (h1 : (assignEach [.Tuple tg kt pt] X.env).map (·.2) = [PySem.assign (.Tuple tg kt pt) X.env]) :
    PS X (.Assign [.Tuple tg kt pt] e pos) (tS T C Wf W (.asg (.tup is) ce)) := PS.weak (ps_asg he hg hs hw h1) fun D σ H ⟨b, s, eH, A, h⟩ => by
  subst eH
  unfold evalS at h
  refine ⟨b, s, rfl, A, (PostS.seq A (Go.refl b) h).mono fun v H1 ⟨x, s1, b1, o1, e1, g1, A1, E1, h1⟩ => ?_⟩
  subst e1
  -- a tuple of parts at depth k - 1
  have go : ∀ (k : Nat) (ds : List BT.D), RpK T b1.ρ b1.Φ b1.H k (.tup ds) v o1 → PostS T b (optFl (assign (.tup is) k (.tup ds) s1)) D W → gTup X.K is.length (gSlots is) v σ b1.H D.nx := fun k ds r h1 => by
    unfold assign at h1
    by_cases hc : is.length = ds.length ∧ is.all (· < s1.env.length) = true
    · simp only [hc, if_true, and_self] at h1
      have hi : ∀ i ∈ is, i < s1.env.length := fun i m => by simpa using List.all_eq_true.mp hc.2 i m
      have fin : ∀ (a : Addr) (vs : List V), v = .ref a → SqT T.K b1.H a vs → RpKL T b1.ρ b1.Φ b1.H (k - 1) ds vs o1 → gTup X.K is.length (gSlots is) v σ b1.H D.nx := fun a vs hv hq hl => by
        have gs := g1.toS A
        obtain ⟨own', A', h'⟩ := At.puts A1 hc.1 hi g1.ox g1.nd g1.no (fun a m => by rw [g1.h0]; exact gs.new a m) hl
        refine ⟨a, vs, hv, by rw [hK]; exact hq, by rw [← hl.len, hc.1], gSlots_go (by rw [← hl.len, hc.1]) ?_⟩
        exact h1 _ { b1 with OX := b.OX, own := own' } ⟨g1.pre, g1.h0, g1.so, g1.phi.trans h', List.nodup_nil, fun _ m => by simp at m, fun _ m => by simp at m, fun a => by simp⟩ A'
      cases r with
      | sc s h => cases s
      | frz h =>
        obtain ⟨a, vs, hv, hq, hl⟩ := h.tup'
        exact fin a vs hv (same_t b1.le hq) (RpKL.ofL hl)
      | tup hq hl => exact fin _ _ rfl (same_t b1.le hq) hl
    · simp only [hc, if_false] at h1; exact h1.elim
  cases E1 with
  | @own k d _ _ r =>
    cases d with
    | tup ds => exact go k ds r h1
    | _ => exact h1.elim
  | @bor k d _ o4 r n =>
    by_cases hd : scal d = true
    · simp only [hd, if_true] at h1
      cases d with
      | tup ds => cases hd
      | _ => exact h1.elim
    · simp only [hd] at h1; exact h1.elim
theorem ss_par {i j : Nat} {x y : PySem.Str} {px py pt : Pos} {kt k2 : Nat} {pt2 : Pos} (hc : X.calm = true) (hN : X.N.Nodup) (hi : X.N[i]? = some x) (hj : X.N[j]? = some y) (hij : i ≠ j)
    (hx : X.env.scope.names.lookup x = some .local) (hy : X.env.scope.names.lookup y = some .local) (ha : PA X [e, f] (tEs T C W (.cons ce (.cons cf .nil))))
    (hw : swappedStores [.Tuple [.Name x px, .Name y py] kt pt] (.Tuple [e, f] k2 pt2) X.env = pure (some [x, y]))
    (hs : swapsWithSole [.Tuple [.Name x px, .Name y py] kt pt] (.Tuple [e, f] k2 pt2) pos.line X.env = pure false) :
    PS X (.Assign [.Tuple [.Name x px, .Name y py] kt pt] (.Tuple [e, f] k2 pt2) pos) (tS T C Wf W (.par i j ce cf)) := PS.weak (ps_par hc hN hi hj hij hx hy ha hw hs) fun D σ H ⟨b, s, eH, A, h⟩ => by
  subst eH
  unfold evalS at h
  refine ⟨b, s, rfl, A, (PostS.seq A (Go.refl b) h).mono fun vs H1 ⟨xs, s1, b1, o1, e1, g1, A1, E1, h1⟩ => ?_⟩
  subst e1
  cases E1 with
  | nil => exact (show False from h1).elim
  | @cons x1 v1 xs1 vs1 oa ob E1 E2 =>
    cases E2 with
    | nil => cases x1 <;> exact (show False from h1).elim
    | @cons x2 v2 xs2 vs2 oc od E2 E3 =>
      cases E3 with
      | cons _ _ => cases x1 <;> cases x2 <;> exact (show False from h1).elim
      | nil =>
        refine ⟨v1, v2, rfl, ?_⟩
        cases E1 with
        | bor _ _ => exact (show False from h1).elim
        | @own k d _ _ r1 =>
          cases E2 with
          | bor _ _ => exact (show False from h1).elim
          | @own l d2 _ _ r2 =>
            simp only at h1
            by_cases hl : i < s1.env.length ∧ j < s1.env.length
            · simp only [hl, if_true, and_self] at h1
              have gs := g1.toS A
              have nd := g1.nd
              rw [List.append_nil] at nd
              have nd' := List.nodup_append.mp nd
              have hox : ∀ a, b1.OX a ↔ (b.OX a ∨ a ∈ oc) ∨ a ∈ oa := fun a => by
                rw [g1.ox]
                simp only [List.mem_append, List.not_mem_nil, or_false]
                constructor
                · rintro (z | z | z)
                  · exact .inl (.inl z)
                  · exact .inr z
                  · exact .inl (.inr z)
                · rintro ((z | z) | z)
                  · exact .inl z
                  · exact .inr (.inr z)
                  · exact .inr (.inl z)
              have no : ∀ a, a ∈ oa ∨ a ∈ oc → ¬ b.OX a := fun a m => g1.no a (by simpa using m)
              have new : ∀ a, a ∈ oa ∨ a ∈ oc → b1.H0 a = none := fun a m => by rw [g1.h0]; exact gs.new a (by simpa using m)
              obtain ⟨own1, A2, h2⟩ := At.put (OX := fun a => b.OX a ∨ a ∈ oc) A1 hl.1 hox nd'.1 (fun a m z => z.elim (no a (.inl m)) fun z => nd'.2.2 a m a z rfl) (fun a m => new a (.inl m)) r1
              obtain ⟨own2, A3, h3⟩ := At.put (OX := b.OX) A2 (i := j) (by show j < (s1.env.set i _).length; rw [List.length_set]; exact hl.2) (fun a => Iff.rfl) nd'.2.1 (fun a m => no a (.inr m)) (fun a m => new a (.inr m)) (r2.mono h2 (List.prefix_refl _) fun _ _ _ q => q)
              exact h1 _ { b1 with OX := b.OX, own := own2 } ⟨g1.pre, g1.h0, g1.so, (g1.phi.trans h2).trans h3, List.nodup_nil, fun _ m => by simp at m, fun _ m => by simp at m, fun a => by simp⟩ A3
            · simp only [hl, if_false] at h1; exact h1.elim

/-! ### op= -/
def rAu (T : Tb) (op : BOp) : TIp := fun x y H Q => ∃ ρ dx dy z, Rp T ρ H dx x ∧ Rp T ρ H dy y ∧ augop op dx dy = some z ∧ ∀ v, (∀ Φ, Rp T ρ Φ z v) → Q v H
theorem ip_of (op : BOp) : PIp X (opOf op) (rAu T op) := by
  rintro pins s σ H x y v u Q I rx ry ⟨ρ, dx, dy, z, r1, r2, hz, k⟩
  unfold augop at hz
  split at hz
  · cases hz
    exact ip_add pins s σ H x y v u Q I rx ry ⟨_, _, r1.int', r2.int', k _ fun Φ => .int _⟩
  · cases hz
    exact ip_sub pins s σ H x y v u Q I rx ry ⟨_, _, r1.int', r2.int', k _ fun Φ => .int _⟩
  · rename_i a b
    split at hz
    · rename_i hl
      cases hz
      refine iop_add_str pins s σ H x y v u Q I rx ry ⟨_, _, r1.str', r2.str', ?_, ?_⟩
      · rw [svLen, svLen]; exact limLe hl
      · rw [svApp]; exact k _ fun Φ => .str _ (BT.strAll r1.strAll r2.strAll)
    · cases hz
  · cases hz
theorem augop_scal {op : BOp} {x y z : BT.D} (h : augop op x y = some z) : scal z = true := by
  unfold augop at h
  split at h <;> (try split at h) <;> first | contradiction | (cases h; rfl)
theorem ss_aug {i : Nat} {op : BOp} {x : PySem.Str} {pos' : Pos} (hN : X.N.Nodup) (hi : X.N[i]? = some x) (hx : Loc X.env.scope x) (hf : X.fn x = true) (he : PE X e (tE T C W ce)) :
    PS X (.AugAssign (.Name x pos') (opOf op) e pos) (tS T C Wf W (.aug i op ce)) := PS.weak (ps_aug hN hi hx he (ip_of (T := T) op) (.inl hf)) fun D σ H ⟨b, s, eH, A, h⟩ => by
  subst eH
  unfold evalS at h
  cases es : s.env[i]? with
  | none => rw [es] at h; exact h.elim
  | some q =>
    cases q with
    | none => rw [es] at h; exact h.elim
    | some kd =>
      obtain ⟨k, d⟩ := kd
      rw [es] at h
      simp only at h
      by_cases hd : scal d = true
      · simp only [hd, if_true] at h
        obtain ⟨v0, p, m, q, e1, e2, e3, e4, e5⟩ := A.slot es
        refine ⟨v0, e2, b, s, rfl, A, (PostS.seq A (Go.refl b) h).mono fun v H1 ⟨x, s1, b1, o1, eb, g1, A1, E1, h1⟩ => ?_⟩
        subst eb
        cases hz : augop op d x.d with
        | none => rw [hz] at h1; exact h1.elim
        | some z =>
          rw [hz] at h1
          simp only at h1
          by_cases hl : i < s1.env.length
          · simp only [hl, if_true] at h1
            have r0 : Rp T b1.ρ b1.H d v0 := ((e3.scal hd).2.scal (Φ2 := b1.H) hd).mono (Same.refl _) g1.pre
            refine ⟨b1.ρ, d, x.d, z, r0, E1.see, hz, fun w rw' => ?_⟩
            obtain ⟨b2, e2, g2, A2⟩ := Go.put (k := 0) A g1.drop (At.drop g1 A1) hl (.sc (augop_scal hz) (rw' (b1.out b.OX).Φ))
            rw [show b1.H = (b1.out b.OX).H from rfl, ← e2]
            exact h1 _ b2 g2 A2
          · simp only [hl] at h1; exact h1.elim
      · simp only [hd] at h; exact h.elim
end
end BT
end

section
/-! BtStmt3: a list changed in place; loops. -/
namespace BT
open PySem PySem.Spec L2
open PyProof.Rows hiding St
set_option autoImplicit false
section
variable {T : Tb} {b b' b1 : Bs} {σ : St} {s s' s1 : S} {o : List Addr} {W : WX} {D : Ends}
theorem At.wr (A0 : At T b s σ) (g : Go b b1 o) (A : At T b1 s1 σ) {i k : Nat} {ds : List BT.D} (es : s1.env[i]? = some (some (k + 1, .lst ds))) :
    ∃ l vs ol p q, b1.own = p ++ (l :: ol) ++ q ∧ σ[i]? = some (some (.ref l)) ∧ b1.H l = some (.lst vs) ∧ RpKL T b1.ρ b1.Φ b1.H k ds vs ol ∧ (∀ a ∈ ol, a ∉ o) ∧ ol.Nodup ∧
      ∀ ds' vs' ol', (∀ a ∈ ol', a ∈ ol ∨ a ∈ o) → ol'.Nodup →
        (Same b1.Φ (hid b1.H (Own b.OX ((p ++ (l :: ol') ++ q) ++ b1.sown))) → (∀ x, Own b.OX ((p ++ (l :: ol') ++ q) ++ b1.sown) x → b.OX x ∨ x ∈ b1.own ∨ x ∈ b1.sown ∨ x ∈ ol') → RpKL T b1.ρ (hid b1.H (Own b.OX ((p ++ (l :: ol') ++ q) ++ b1.sown))) b1.H k ds' vs' ol') →
        ∃ b2, b2.H = upd b1.H l (.lst vs') ∧ GoS b b2 [] ∧ At T b2 { s1 with env := s1.env.set i (some (k + 1, .lst ds')) } σ := by
  obtain ⟨v, p, m, q, e1, e2, e3, e4, e5⟩ := RpE.split A.env es
  cases e3 with
  | sc s h => cases s
  | @lst _ _ l vs ol hl hk =>
    have nd0 : ((p ++ (l :: ol) ++ q) ++ b1.sown).Nodup := by rw [← e1]; exact A.nd
    have inOwn : ∀ a, a ∈ p ∨ a = l ∨ a ∈ ol ∨ a ∈ q → a ∈ b1.own := fun a h => by
      rw [e1]; simp only [List.mem_append, List.mem_cons]
      rcases h with h | h | h | h <;> simp [h]
    have oOut : ∀ a ∈ o, a ∉ b1.own ∧ a ∉ b1.sown := fun a m => by
      have z := (g.ox a).mpr (.inr m)
      exact ⟨fun h => A.ox a (List.mem_append_left _ h) z, fun h => A.ox a (List.mem_append_right _ h) z⟩
    have nd1 := nd0
    simp only [List.nodup_append, List.nodup_cons, List.mem_append, List.mem_cons] at nd1
    obtain ⟨⟨⟨n1, ⟨n2a, n2b⟩, n3⟩, n4, n5⟩, n6, n7⟩ := nd1
    refine ⟨l, vs, ol, p, q, e1, e2, hl, hk, fun a m z => (oOut a z).1 (inOwn a (.inr (.inr (.inl m)))), n2b, fun ds' vs' ol' sub nd' cont => ?_⟩
    have hP : ∀ x, Own b.OX ((p ++ (l :: ol') ++ q) ++ b1.sown) x → b.OX x ∨ x ∈ b1.own ∨ x ∈ b1.sown ∨ x ∈ ol' := fun x z => by
      rcases z with z | z
      · exact .inl z
      · simp only [List.mem_append, List.mem_cons] at z
        rcases z with ((z | z | z) | z) | z
        · exact .inr (.inl (inOwn x (.inl z)))
        · exact .inr (.inl (inOwn x (.inr (.inl z))))
        · exact .inr (.inr (.inr z))
        · exact .inr (.inl (inOwn x (.inr (.inr (.inr z)))))
        · exact .inr (.inr (.inl z))
    have toP1 : ∀ x, Own b.OX ((p ++ (l :: ol') ++ q) ++ b1.sown) x → Own b1.OX (b1.own ++ b1.sown) x := fun x z => by
      rcases hP x z with z | z | z | z
      · exact .inl ((g.ox x).mpr (.inl z))
      · exact .inr (List.mem_append_left _ z)
      · exact .inr (List.mem_append_right _ z)
      · rcases sub x z with z | z
        · exact .inr (List.mem_append_left _ (inOwn x (.inr (.inr (.inl z)))))
        · exact .inl ((g.ox x).mpr (.inr z))
    have hΦ1 : Same b1.Φ (hid b1.H (Own b.OX ((p ++ (l :: ol') ++ q) ++ b1.sown))) := hid_less toP1
    have lowned : Own b.OX ((p ++ (l :: ol') ++ q) ++ b1.sown) l := .inr (by simp)
    have hΦ2 : Same (hid b1.H (Own b.OX ((p ++ (l :: ol') ++ q) ++ b1.sown))) (hid (upd b1.H l (.lst vs')) (Own b.OX ((p ++ (l :: ol') ++ q) ++ b1.sown))) := hid_mono fun a u e n => ⟨n, by
      have : a ≠ l := fun z => n (z ▸ lowned)
      rw [upd_ne this]; exact e⟩
    have kp : ∀ a, a ≠ l → ∀ u, b1.H a = some u → upd b1.H l (.lst vs') a = some u := fun a n u h => by rw [upd_ne n]; exact h
    have nel : ∀ a, a ∈ p ∨ a ∈ ol ∨ a ∈ q ∨ a ∈ b1.sown ∨ a ∈ o → a ≠ l := fun a h z => by
      subst z
      rcases h with h | h | h | h | h
      · exact n3 a h a (.inl rfl) rfl
      · exact n2a h
      · exact n5 a (.inr (.inl rfl)) a h rfl
      · exact n7 a (.inl (.inr (.inl rfl))) a h rfl
      · exact (oOut a h).1 (inOwn a (.inr (.inl rfl)))
    have l0 : b1.H0 l = none := A.new l (inOwn l (.inr (.inl rfl)))
    have gs := g.toS A0
    refine ⟨{ b1 with OX := b.OX, H := upd b1.H l (.lst vs'), own := p ++ (l :: ol') ++ q }, rfl, ⟨g.pre, g.h0, g.so, (g.phi.trans hΦ1).trans hΦ2, List.nodup_nil, fun _ m => by simp at m, fun _ m => by simp at m, fun a => by simp⟩, ?_⟩
    have A4 := e4 (ρ' := b1.ρ) (hΦ1.trans hΦ2) (List.prefix_refl _) (fun a m u h => kp a (nel a (by simp only [List.mem_append] at m; rcases m with m | m <;> simp [m])) u h) (k + 1) (.lst ds') (.ref l) (l :: ol')
      (.lst upd_same ((cont hΦ1 hP).mono hΦ2 (List.prefix_refl _) fun a m u h => kp a (nel a (by rcases sub a m with z | z <;> simp [z])) u h))
    rw [getElem?_set_same e2] at A4
    refine ⟨fun a u h n => kp a (fun z => by subst z; have h : b1.H0 a = some u := h; rw [l0] at h; cases h) u (A.same a u h n), fun a u h => ?_, fun a h => ?_, A4, A.sto.mono (hΦ1.trans hΦ2) (List.prefix_refl _) fun a m u h => kp a (nel a (by simp [m])) u h, ?_, fun a m => ?_, A.snew, fun a m z => ?_, fun a z => ?_⟩
    · by_cases z : a = l
      · exact ⟨_, by rw [z]; exact upd_same⟩
      · exact (A.there a u h).imp fun u' h' => kp a z u' h'
    · by_cases z : a = l
      · exact ⟨_, by rw [z]; exact upd_same, rfl⟩
      · exact (A.nt a h).imp fun u' h' => ⟨kp a z u' h'.1, h'.2⟩
    · simp only [List.nodup_append, List.nodup_cons, List.mem_append, List.mem_cons]
      have out : ∀ a ∈ ol', a ∉ p ∧ a ≠ l ∧ a ∉ q ∧ a ∉ b1.sown := fun a m => by
        rcases sub a m with z | z
        · exact ⟨fun h => n3 a h a (.inr z) rfl, nel a (by simp [z]), fun h => n5 a (.inr (.inr z)) a h rfl, fun h => n7 a (.inl (.inr (.inr z))) a h rfl⟩
        · exact ⟨fun h => (oOut a z).1 (inOwn a (.inl h)), nel a (by simp [z]), fun h => (oOut a z).1 (inOwn a (.inr (.inr (.inr h)))), fun h => (oOut a z).2 h⟩
      refine ⟨⟨⟨n1, ⟨fun h => (out l h).2.1 rfl, nd'⟩, fun a ha c hc e => ?_⟩, n4, fun a ha c hc e => ?_⟩, n6, fun a ha c hc e => ?_⟩
      · subst e
        rcases hc with hc | hc
        · exact n3 a ha a (.inl hc) rfl
        · exact (out a hc).1 ha
      · subst e
        rcases ha with ha | ha | ha
        · exact n5 a (.inl ha) a hc rfl
        · exact n5 a (.inr (.inl ha)) a hc rfl
        · exact (out a ha).2.2.1 hc
      · subst e
        rcases ha with (ha | ha | ha) | ha
        · exact n7 a (.inl (.inl ha)) a hc rfl
        · exact n7 a (.inl (.inr (.inl ha))) a hc rfl
        · exact (out a ha).2.2.2 hc
        · exact n7 a (.inr ha) a hc rfl
    · simp only [List.mem_append, List.mem_cons] at m
      rcases m with (m | m | m) | m
      · exact A.new a (inOwn a (.inl m))
      · exact A.new a (inOwn a (.inr (.inl m)))
      · rcases sub a m with z | z
        · exact A.new a (inOwn a (.inr (.inr (.inl z))))
        · show b1.H0 a = none
          rw [g.h0]; exact gs.new a z
      · exact A.new a (inOwn a (.inr (.inr (.inr m))))
    · have z1 := (g.ox a).mpr (.inl z)
      simp only [List.mem_append, List.mem_cons] at m
      rcases m with ((m | m | m) | m) | m
      · exact A.ox a (List.mem_append_left _ (inOwn a (.inl m))) z1
      · exact A.ox a (List.mem_append_left _ (inOwn a (.inr (.inl m)))) z1
      · rcases sub a m with w | w
        · exact A.ox a (List.mem_append_left _ (inOwn a (.inr (.inr (.inl w))))) z1
        · exact g.no a w z
      · exact A.ox a (List.mem_append_left _ (inOwn a (.inr (.inr (.inr m))))) z1
      · exact A.ox a (List.mem_append_right _ m) z1
    · obtain ⟨u, h, hT⟩ := A.oxH a ((g.ox a).mpr (.inl z))
      by_cases z : a = l
      · exact ⟨_, by rw [z]; exact upd_same, rfl⟩
      · exact ⟨u, kp a z u h, hT⟩
/-- an item that fits: what it brings -/
theorem EvR.fits {k : Nat} {x : EV} {v : V} {Φw : Hp} (E : EvR T b1 x v o) (h : x.fit k = true) (e : Same b1.Φ Φw) (vis : k = 0 → ∀ a ∈ o, ∀ u, b1.H a = some u → Φw a = some u) :
    ∃ o', (o' = [] ∨ o' = o) ∧ (k = 0 → o' = []) ∧ RpK T b1.ρ Φw b1.H k x.d v o' := by
  cases E with
  | @own j d _ _ r =>
    simp only [EV.fit, BT.fit, Bool.or_eq_true, beq_iff_eq] at h
    rcases h with (h | h) | h
    · exact ⟨[], .inl rfl, fun _ => rfl, .sc h ((r.scal h).2.mono e (List.prefix_refl _))⟩
    · subst h
      exact ⟨[], .inl rfl, fun _ => rfl, .frz (r.freeze e (List.prefix_refl _) (vis rfl))⟩
    · subst h
      refine ⟨o, .inr rfl, fun z => ?_, r.mono e (List.prefix_refl _) fun _ _ _ q => q⟩
      subst z
      exact r.zero.1
  | bor r n => exact ⟨[], .inl rfl, fun _ => rfl, .sc h ((r.scal h).2.mono e (List.prefix_refl _))⟩
end
section
variable {T : Tb} {C : CF} {Wf : Nat} {W : WX} {X : Cx} {pos p1 p2 : Pos} {e f g : Expr} {ce cf : CE}
theorem ss_app {i : Nat} (hK : X.K = T.K) (hv : PE X g (tVar i)) (he : PE X e (tE T C W ce)) (hs : starEach [e] X.env = (false, eval e X.env) :: starEach [] X.env) (hp : PE X (.Call (.Attribute g "append" p1) [e] [] p2) (tBM X.K "list" rAppend (tVar i) (tEs T C W (.cons ce .nil)))) (hw : swapsWith (.Call (.Attribute g "append" p1) [e] [] p2) none pos.line X.env = pure false) :
    PS X (.Expr (.Call (.Attribute g "append" p1) [e] [] p2) pos) (tS T C Wf W (.app i ce)) := PS.weak (ps_expr hp hw) fun D σ H ⟨b, s, eH, A, h⟩ => by
  subst eH
  unfold evalS at h
  cases es : s.env[i]? with
  | none => rw [es] at h; exact h.elim
  | some q =>
    cases q with
    | none => rw [es] at h; exact h.elim
    | some kd =>
      obtain ⟨k0, d0⟩ := kd
      rw [es] at h
      cases d0 with
      | lst ds0 =>
        simp only at h
        obtain ⟨v0, p, m, q, e1, e2, e3, e4, e5⟩ := A.slot es
        obtain ⟨l0, vs0, rfl, hq0, _⟩ := (e3.see b.le).lst'
        refine ⟨.ref l0, e2, .inl ⟨rfl, vs0, by rw [hK]; exact hq0⟩, b, s, rfl, A, ?_⟩
        have hseq : evalEs C (.cons ce .nil) s = (evalE C ce s).bind fun x s1 => .ok [x] s1 := by
          simp only [evalEs]
          rfl
        rw [hseq]
        cases ho : evalE C ce s with
        | err => rw [ho] at h; exact h
        | exc x s1 =>
          rw [ho] at h
          exact fun c d b' g A' r => h σ c d b' (g.toS A) A' r
        | ok x s1 =>
          rw [ho] at h
          simp only [Out.fl] at h
          intro vs b1 o1 g1 A1 E1
          cases E1 with
          | @cons _ w _ _ oa ob Ea Er =>
            cases Er
            rw [List.append_nil] at g1
            cases es1 : s1.env[i]? with
            | none => rw [es1] at h; exact h.elim
            | some q =>
              cases q with
              | none => rw [es1] at h; exact h.elim
              | some kd =>
                obtain ⟨k1, d1⟩ := kd
                rw [es1] at h
                cases k1 with
                | zero => exact h.elim
                | succ k =>
                  cases d1 with
                  | lst ds =>
                    simp only at h
                    by_cases hc : (EV.fit k x && decide (ds.length < LIM)) = true
                    · simp only [hc, if_true] at h
                      rw [Bool.and_eq_true, decide_eq_true_eq] at hc
                      obtain ⟨l, ws, ol, p', q', own1, sg, hl, hk, dj, ndl, fin⟩ := At.wr A g1 A1 es1
                      rw [e2] at sg
                      cases sg
                      refine ⟨l0, ws, w, rfl, rfl, hl, ?_, ?_⟩
                      · rw [← hk.len]; exact limLt (Nat.le_of_lt hc.2)
                      · by_cases hk0 : k = 0
                        · subst hk0
                          obtain ⟨rfl, hk'⟩ := hk.zero
                          obtain ⟨b2, eh, g2, A2⟩ := fin (ds ++ [x.d]) (ws ++ [w]) [] (fun a m => by simp at m) List.nodup_nil fun hΦ hP => by
                            obtain ⟨o', _, hz, r⟩ := Ea.fits hc.1 hΦ fun _ a m u hu => by
                              rw [hid_at]
                              · exact hu
                              · intro z
                                rcases hP a z with z | z | z | z
                                · exact g1.no a m z
                                · exact A1.ox a (List.mem_append_left _ z) ((g1.ox a).mpr (.inr m))
                                · exact A1.ox a (List.mem_append_right _ z) ((g1.ox a).mpr (.inr m))
                                · simp at z
                            have r' := (hz rfl ▸ r).zero.2
                            exact RpKL.ofL ((hk'.mono hΦ (List.prefix_refl _)).app (.cons r' .nil))
                          rw [← eh]
                          exact h σ b2 g2 A2
                        · have fitE : ∃ o', (o' = [] ∨ o' = oa) ∧ RpK T b1.ρ b1.Φ b1.H k x.d w o' := by
                            obtain ⟨o', h1, _, r⟩ := Ea.fits hc.1 (Same.refl _) fun z => absurd z hk0
                            exact ⟨o', h1, r⟩
                          obtain ⟨o', ho', r⟩ := fitE
                          have sub : ∀ a ∈ o', a ∈ oa := fun a m => by
                            rcases ho' with rfl | rfl
                            · simp at m
                            · exact m
                          have ndo : o'.Nodup := by
                            rcases ho' with rfl | rfl
                            · exact List.nodup_nil
                            · exact g1.nd
                          obtain ⟨b2, eh, g2, A2⟩ := fin (ds ++ [x.d]) (ws ++ [w]) (ol ++ o') (fun a m => (List.mem_append.mp m).imp id (sub a)) (List.nodup_append.mpr ⟨ndl, ndo, fun a m c mc e => dj a m (sub a (e ▸ mc))⟩) fun hΦ hP => by
                            have := (hk.mono hΦ (List.prefix_refl _) fun _ _ _ q => q).app (RpKL.cons (r.mono hΦ (List.prefix_refl _) fun _ _ _ q => q) .nil)
                            simpa using this
                          rw [← eh]
                          exact h σ b2 g2 A2
                    · simp only [hc] at h; exact h.elim
                  | _ => exact h.elim
      | _ => exact h.elim
end
end BT
end

section
/-! BtLoop: loops. -/
namespace BT
open PySem PySem.Spec L2
open PyProof.Rows hiding St
set_option autoImplicit false
/-- the turn's end -/
def loopK (fl : Fl) (r : S → Fl) : Fl := match fl with
  | .next s' => r s'
  | .cont s' => r s'
  | .brk s' => .next s'
  | x => x
theorem forL_cons (step : BT.D → S → Fl) (d : BT.D) (ds : List BT.D) (s : S) : forL step (d :: ds) s = loopK (step d s) (forL step ds) := by
  show (match step d s with | .next s' => forL step ds s' | .cont s' => forL step ds s' | .brk s' => .next s' | r => r) = _
  cases step d s <;> rfl
theorem whileL_succ (test : S → Out Bool) (body : S → Fl) (n : Nat) (s : S) : whileL test body (n + 1) s = (test s).fl fun t s1 => if t then loopK (body s1) (whileL test body n) else .next s1 := by
  show (match test s with | .ok true s1 => (match body s1 with | .next s' => whileL test body n s' | .cont s' => whileL test body n s' | .brk s' => .next s' | r => r) | .ok false s1 => .next s1 | .exc x s1 => .exc x s1 | .err => .err) = _
  cases test s with
  | ok t s1 =>
    cases t with
    | true =>
      show _ = loopK (body s1) _
      simp only [loopK]
    | false => rfl
  | exc x s1 => rfl
  | err => rfl
section
variable {T : Tb} {b b0 b1 : Bs} {σ : St} {s : S} {W : WX} {D : Ends}
/-- what is wanted behind a turn -/
def NextT (T : Tb) (b0 : Bs) (r : S → Fl) (D : Ends) (W : WX) : St → Hp → Prop := fun σ H => ∃ b s, b.H = H ∧ At T b s σ ∧ GoS b0 b [] ∧ PostS T b (r s) D W
theorem PostS.loop {fl : Fl} {r : S → Fl} (h : PostS T b (loopK fl r) D W) (g : GoS b0 b []) : PostS T b fl { D with nx := NextT T b0 r D W, ct := NextT T b0 r D W, bk := D.nx } W := by
  cases fl with
  | next s' => exact fun σ' b' g' A => ⟨b', s', rfl, A, g.trans g', PostS.shift h g'⟩
  | cont s' => exact fun σ' b' g' A => ⟨b', s', rfl, A, g.trans g', PostS.shift h g'⟩
  | brk s' => exact fun σ' b' g' A => h σ' b' g' A
  | ret k d sto => exact h
  | exc x s' => exact h
  | err => exact h
theorem for_gen {J : It} {n : Nat} {g : TG} {tb : TS} {σ : St} {H : Hp} (Pv : Nat → St → Hp → Prop) (h0 : Pv 0 σ H)
    (hs : ∀ i σ H, i < n → Pv i σ H → J.go i H ∧ ∀ x H', J.yld i H x H' → g x σ H' fun σ2 H2 => tb { D with nx := Pv (i + 1), ct := Pv (i + 1), bk := D.nx } σ2 H2)
    (hd : ∀ σ H, Pv n σ H → J.stop n H ∧ D.nx σ H) :
    ∃ W : Nat → Nat → St → Hp → Prop, (∃ m, W 0 m σ H) ∧ ∀ i m σ H, W i m σ H →
      (J.stop i H ∧ D.nx σ H) ∨ (J.go i H ∧ ∃ N : St → Hp → Prop, (∀ σ' H', N σ' H' → ∃ m', m' < m ∧ W (i + 1) m' σ' H') ∧ ∀ x H', J.yld i H x H' → g x σ H' fun σ2 H2 => tb { D with nx := N, ct := N, bk := D.nx } σ2 H2) := by
  refine ⟨fun i m σ H => i + m = n ∧ Pv i σ H, ⟨n, Nat.zero_add n, h0⟩, fun i m σ H ⟨e, p⟩ => ?_⟩
  cases m with
  | zero =>
    rw [Nat.add_zero] at e
    subst e
    exact .inl (hd σ H p)
  | succ m =>
    obtain ⟨h1, h2⟩ := hs i σ H (by omega) p
    exact .inr ⟨h1, Pv (i + 1), fun σ' H' p' => ⟨m, Nat.lt_succ_self m, by omega, p'⟩, h2⟩
/-- a target takes frozen data -/
def TgOk (T : Tb) (t : Tg) (gt : TG) : Prop := ∀ (b : Bs) (s s3 : S) (σ : St) (d : BT.D) (v : V) (P : St → Hp → Prop), At T b s σ → Rp T b.ρ b.Φ d v → BT.assign t 0 d s = some s3 →
  (∀ σ2 b2, b2.H = b.H → GoS b b2 [] → At T b2 s3 σ2 → P σ2 b2.H) → gt v σ b.H P
theorem tg_name {i : Nat} : TgOk T (.name i) (gName i) := by
  intro b s s3 σ d v P A r h k
  unfold BT.assign at h
  simp only at h
  by_cases hl : i < s.env.length
  · rw [if_pos hl] at h
    cases h
    obtain ⟨b2, e, g, A2⟩ := Go.put (k := 0) A (Go.refl b) A hl (.frz r)
    show P (σ.set i (some v)) b.H
    rw [← e]
    exact k _ b2 e g A2
  · rw [if_neg hl] at h; cases h
theorem tg_tup {K : PySem.W.Frag} {is : List Nat} (hK : K = T.K) : TgOk T (.tup is) (gTup K is.length (gSlots is)) := by
  intro b s s3 σ d v P A r h k
  unfold BT.assign at h
  cases d with
  | tup ds =>
    simp only at h
    by_cases hc : is.length = ds.length ∧ is.all (· < s.env.length) = true
    · rw [if_pos hc] at h
      cases h
      obtain ⟨a, vs, hv, hq, hl⟩ := r.tup'
      obtain ⟨own', A', h'⟩ := At.puts (OX := b.OX) (o := []) A hc.1 (fun i m => by simpa using List.all_eq_true.mp hc.2 i m) (fun a => by simp) List.nodup_nil (fun _ m => by simp at m) (fun _ m => by simp at m) (RpKL.ofL (H := b.H) hl)
      refine ⟨a, vs, hv, by rw [hK]; exact same_t b.le hq, by rw [← hl.len, hc.1], gSlots_go (by rw [← hl.len, hc.1]) ?_⟩
      exact k _ { b with OX := b.OX, own := own' } rfl ⟨List.prefix_refl _, rfl, rfl, h', List.nodup_nil, fun _ m => by simp at m, fun _ m => by simp at m, fun a => by simp⟩ A'
    · rw [if_neg hc] at h; cases h
  | _ => simp at h
end
section
variable {T : Tb} {C : CF} {Wf : Nat} {W : WX} {X : Cx} {pos : Pos} {tg e f : Expr} {ce cf : CE} {sts : List Stmt} {css : CSs} {t : Tg} {gt : TG}
/-- the turns over the data ds, however they are walked -/
theorem for_core {b b0 : Bs} {s : S} {σ : St} {D : Ends} {J : It} {ds : List BT.D} (ht : TgOk T t gt) (A : At T b s σ) (g0 : GoS b0 b [])
    (h : PostS T b (forL (fun d s2 => match BT.assign t 0 d s2 with | some s3 => evalSs C Wf css s3 | none => .err) ds s) D W)
    (go : ∀ i d H, ds[i]? = some d → (∃ b, b.H = H ∧ GoS b0 b []) → J.go i H ∧ ∀ x H', J.yld i H x H' → H' = H ∧ ∀ b, b.H = H → GoS b0 b [] → Rp T b.ρ b.Φ d x)
    (stop : ∀ H, (∃ b, b.H = H ∧ GoS b0 b []) → J.stop ds.length H) :
    ∃ Wp : Nat → Nat → St → Hp → Prop, (∃ m, Wp 0 m σ b.H) ∧ ∀ i m σ H, Wp i m σ H →
      (J.stop i H ∧ D.nx σ H) ∨ (J.go i H ∧ ∃ N : St → Hp → Prop, (∀ σ' H', N σ' H' → ∃ m', m' < m ∧ Wp (i + 1) m' σ' H') ∧ ∀ x H', J.yld i H x H' → gt x σ H' fun σ2 H2 => tSs T C Wf W css { D with nx := N, ct := N, bk := D.nx } σ2 H2) := by
  refine for_gen (n := ds.length) (fun i σ H => NextT T b0 (forL (fun d s2 => match BT.assign t 0 d s2 with | some s3 => evalSs C Wf css s3 | none => .err) (ds.drop i)) D W σ H) ⟨b, s, rfl, A, g0, h⟩ (fun i σ H hi ⟨b1, s1, eH, A1, g1, h1⟩ => ?_) fun σ H ⟨b1, s1, eH, A1, g1, h1⟩ => ?_
  · subst eH
    obtain ⟨d, hd⟩ : ∃ d, ds[i]? = some d := ⟨ds[i], List.getElem?_eq_getElem hi⟩
    obtain ⟨k1, k2⟩ := go i d b1.H hd ⟨b1, rfl, g1⟩
    refine ⟨k1, fun x H' y => ?_⟩
    obtain ⟨rfl, k3⟩ := k2 x H' y
    have hdrop : ds.drop i = d :: ds.drop (i + 1) := by
      rw [List.drop_eq_getElem_cons hi]
      congr 1
      exact Option.some.inj ((List.getElem?_eq_getElem hi).symm.trans hd)
    rw [hdrop, forL_cons] at h1
    cases ha : BT.assign t 0 d s1 with
    | none => simp only [ha] at h1; exact h1.elim
    | some s3 =>
      simp only [ha] at h1
      exact ht b1 s1 s3 σ d x _ A1 (k3 b1 rfl g1) ha fun σ2 b2 e2 g2 A2 => ⟨b2, s3, rfl, A2, PostS.loop (h1.shift g2) (g1.trans g2)⟩
  · subst eH
    rw [List.drop_length] at h1
    exact ⟨stop b1.H ⟨b1, rfl, g1⟩, h1 σ b1 (GoS.refl b1) A1⟩
theorem evalEs_one (C : CF) (c : CE) (s : S) : evalEs C (.cons c .nil) s = (evalE C c s).bind fun x s1 => .ok [x] s1 := by
  simp only [evalEs]
  rfl
theorem ss_range1 {p p2 : Pos} (hpa : PassesOwn (model X.prog X.w) X.A X.env X.xe) (hc : X.calm = true) (hg : Gl X "range") (hm : X.mg "range" = none) (hpg : PG X tg gt) (ht : TgOk T t gt) (ha : PA X [e] (tEs T C W (.cons ce .nil))) (hs : starEach [e] X.env = [(false, eval e X.env)]) (hb : PSs X sts (tSs T C Wf W css)) :
    PS X (.For tg (.Call (.Name "range" p) [e] [] p2) sts [] pos) (tS T C Wf W (.for t (.range1 ce) css)) := PS.weak (ps_for hpa hc (pi_range1 hg hm ha hs) hpg hb) fun D σ H ⟨b, s, eH, A, h⟩ => by
  subst eH
  unfold evalS at h
  simp only [evalI] at h
  refine ⟨b, s, rfl, A, ?_⟩
  rw [evalEs_one]
  cases ho : evalE C ce s with
  | err => rw [ho] at h; exact h
  | exc x s1 => rw [ho] at h; exact fun c d b' g A' r => h σ c d b' (g.toS A) A' r
  | ok x s1 =>
    rw [ho] at h
    simp only [Out.bind] at h
    intro vs b1 o1 g1 A1 E1
    cases E1 with
    | @cons _ w _ _ oa ob Ea Er =>
      cases Er
      have see := Ea.see
      cases hd : x.d with
      | int n =>
        rw [hd] at h see
        simp only at h
        by_cases hn : n < 4611686018427387904 ∧ -4611686018427387904 ≤ n
        · rw [if_pos hn] at h
          simp only [Out.fl] at h
          refine ⟨n, by rw [see.int'], by have := hn.2; omega, by have := hn.1; omega, ?_⟩
          have A1' := At.drop g1 A1
          have gs := g1.drop.toS A
          refine for_core (b := b1.out b.OX) ht A1' (GoS.refl _) (h.shift gs) (fun i d H hd' _ => ?_) fun H _ => ?_
          · rw [List.getElem?_map] at hd'
            obtain ⟨j, hj, rfl⟩ := Option.map_eq_some_iff.mp hd'
            have hi := (List.getElem?_eq_some_iff.mp hj).1
            rw [List.length_range] at hi
            have : j = i := by
              have h2 := (List.getElem?_eq_some_iff.mp hj).2
              rw [List.getElem_range] at h2
              exact h2.symm
            subst this
            refine ⟨hi, fun x H' y => ⟨y.1, fun b' _ _ => ?_⟩⟩
            rw [y.2, Int.zero_add]
            exact .int _
          · show n.toNat ≤ (List.map _ (List.range n.toNat)).length
            rw [List.length_map, List.length_range]
            exact Nat.le_refl _
        · rw [if_neg hn] at h; exact h.elim
      | _ => rw [hd] at h; exact h.elim
theorem ss_val (hK : X.K = T.K) (hpa : PassesOwn (model X.prog X.w) X.A X.env X.xe) (hc : X.calm = true) (hpg : PG X tg gt) (ht : TgOk T t gt) (he : PE X e (tE T C W ce)) (hb : PSs X sts (tSs T C Wf W css)) (hs : ∀ x, foldedSetIterable e X.env x = pure x) :
    PS X (.For tg e sts [] pos) (tS T C Wf W (.for t (.val ce) css)) := by
  have pL := ps_for (pos := pos) hpa hc (pi_list (tg := tg) he) hpg hb hs
  have pT := ps_for (pos := pos) hpa hc (pi_tup (tg := tg) he) hpg hb hs
  have pS := ps_for (pos := pos) hpa hc (pi_str (tg := tg) he) hpg hb hs
  refine ⟨fun pins ss σ H D I q => ?_⟩
  obtain ⟨b, s, eH, A, h⟩ := q
  subst eH
  unfold evalS at h
  simp only [evalI] at h
  -- what is walked once the value is there
  cases ho : evalE C ce s with
  | err => rw [ho] at h; exact h.elim
  | exc x s1 =>
    rw [ho] at h
    refine pL.run pins ss σ b.H D I ⟨b, s, rfl, A, ?_⟩
    rw [ho]
    exact fun c d b' g A' r => h σ c d b' (g.toS A) A' r
  | ok x s1 =>
    rw [ho] at h
    simp only [Out.bind] at h
    have walk : ∀ {a : Addr} {vs : List V} {ds : List BT.D} {b0 : Bs}, RpL T b0.ρ b0.Φ ds vs → ∀ i d, ds[i]? = some d → ∃ v, vs[i]? = some v ∧ ∀ b, GoS b0 b [] → Rp T b.ρ b.Φ d v := fun {a vs ds b0} hl i d hd => by
      obtain ⟨v, hv, r⟩ := hl.get hd
      exact ⟨v, hv, fun b g => r.mono g.phi g.pre⟩
    cases x with
    | bor k d => cases d <;> exact (show False from h).elim
    | own k d =>
      cases d with
      | lst ds =>
        simp only [Out.fl] at h
        refine pL.run pins ss σ b.H D I ⟨b, s, rfl, A, ?_⟩
        rw [ho]
        intro v b1 o1 g1 A1 E1
        cases E1 with
        | own r =>
          have fr : Rp T b1.ρ (b1.out b.OX).Φ (.lst ds) v := r.freeze g1.outLe (List.prefix_refl _) (g1.vis A1)
          obtain ⟨a, vs, rfl, hq, hl⟩ := fr.lst'
          have gs := g1.drop.toS A
          have at0 : ∀ H, (∃ b', b'.H = H ∧ GoS (b1.out b.OX) b' []) → SqL X.K H a vs := fun H ⟨b', e, g⟩ => by
            subst e; rw [hK]; exact same_l (g.phi.trans b'.le) hq
          refine ⟨a, rfl, ⟨vs, at0 b1.H ⟨b1.out b.OX, rfl, GoS.refl _⟩⟩, for_core (b := b1.out b.OX) ht (At.drop g1 A1) (GoS.refl _) (h.shift gs) (fun i d H hd hb => ?_) fun H hb => ⟨vs, at0 H hb, by rw [hl.len]; exact Nat.le_refl _⟩⟩
          obtain ⟨u, hu, ru⟩ := walk (a := a) (b0 := b1.out b.OX) hl i d hd
          refine ⟨⟨vs, u, at0 H hb, hu⟩, fun x H' y => ⟨y.1, fun b' e g => ?_⟩⟩
          have := (y.2 vs (at0 H hb)).symm.trans hu
          cases this
          exact ru b' g
      | tup ds =>
        simp only [Out.fl] at h
        refine pT.run pins ss σ b.H D I ⟨b, s, rfl, A, ?_⟩
        rw [ho]
        intro v b1 o1 g1 A1 E1
        cases E1 with
        | own r =>
          have fr : Rp T b1.ρ (b1.out b.OX).Φ (.tup ds) v := r.freeze g1.outLe (List.prefix_refl _) (g1.vis A1)
          obtain ⟨a, vs, rfl, hq, hl⟩ := fr.tup'
          have gs := g1.drop.toS A
          have at0 : ∀ H, (∃ b', b'.H = H ∧ GoS (b1.out b.OX) b' []) → SqT X.K H a vs := fun H ⟨b', e, g⟩ => by
            subst e; rw [hK]; exact same_t (g.phi.trans b'.le) hq
          refine ⟨a, rfl, ⟨vs, at0 b1.H ⟨b1.out b.OX, rfl, GoS.refl _⟩⟩, for_core (b := b1.out b.OX) ht (At.drop g1 A1) (GoS.refl _) (h.shift gs) (fun i d H hd hb => ?_) fun H hb => ⟨vs, at0 H hb, by rw [hl.len]; exact Nat.le_refl _⟩⟩
          obtain ⟨u, hu, ru⟩ := walk (a := a) (b0 := b1.out b.OX) hl i d hd
          refine ⟨⟨vs, u, at0 H hb, hu⟩, fun x H' y => ⟨y.1, fun b' e g => ?_⟩⟩
          have := (y.2 vs (at0 H hb)).symm.trans hu
          cases this
          exact ru b' g
      | str z =>
        simp only [Out.fl] at h
        refine pS.run pins ss σ b.H D I ⟨b, s, rfl, A, ?_⟩
        rw [ho]
        intro v b1 o1 g1 A1 E1
        have see := E1.see
        have gs := g1.drop.toS A
        have hall := see.strAll
        refine ⟨sv z, see.str', for_core (b := b1.out b.OX) ht (At.drop g1 A1) (GoS.refl _) (h.shift gs) (fun i d H hd hb => ?_) fun H hb => ?_⟩
        · rw [List.getElem?_map] at hd
          obtain ⟨c, hc, rfl⟩ := Option.map_eq_some_iff.mp hd
          have hi := (List.getElem?_eq_some_iff.mp hc).1
          refine ⟨show i < (sv z).cps.size by simpa using hi, fun x H' y => ⟨y.1, fun b' e g => ?_⟩⟩
          obtain ⟨c', hc', rfl⟩ := y.2
          have hz : z[i]? = some c' := by simpa using hc'
          rw [hz] at hc
          cases hc
          rw [List.all_eq_true] at hall
          have hc1 : c < 1114112 := by simpa using hall c (List.mem_of_getElem? hz)
          exact .str [c] (by simp [hc1])
        · show (sv z).cps.size ≤ _
          simp
      | _ => exact h.elim
theorem ss_while (hpa : PassesOwn (model X.prog X.w) X.A X.env X.xe) (hcond : PT X e (tT T C W ce)) (hb : PSs X sts (tSs T C Wf W css)) : PS X (.While e sts [] pos) (tS T C Wf W (.whl ce css)) := PS.weak (ps_while hpa hcond hb) fun D σ H ⟨b, s, eH, A, h⟩ => by
  subst eH
  unfold evalS at h
  refine ⟨fun m σ H => NextT T b (whileL (evalT C ce) (evalSs C Wf css) m) D W σ H, ⟨Wf, b, s, rfl, A, GoS.refl b, h⟩, fun m σ H ⟨b1, s1, eH, A1, g1, h1⟩ => ?_⟩
  subst eH
  cases m with
  | zero => exact h1.elim
  | succ m =>
    rw [whileL_succ] at h1
    refine ⟨b1, s1, rfl, A1, (PostS.seq A1 (Go.refl b1) h1).mono fun w H1 ⟨t, s2, b2, o2, e2, g2, A2, E2, h2⟩ => ?_⟩
    subst e2
    obtain ⟨rfl, rfl⟩ := E2
    have gs := g2.toS A1
    cases w with
    | true =>
      rw [if_pos rfl]
      exact ⟨_, fun σ' H' n => ⟨m, Nat.lt_succ_self m, n⟩, b2, s2, rfl, A2, PostS.loop (h2.shift gs) (g1.trans gs)⟩
    | false =>
      rw [if_neg Bool.false_ne_true]
      exact h2 σ b2 gs A2
end
end BT
end

section
/-! BtChk: does a text of the small language tell a text of the model's syntax? And: then it is so. -/
namespace BT
open PySem PySem.Spec L2
open PyProof.Rows hiding St
set_option autoImplicit false

/-- a def: its slots, its scope; the module: its defs by number, the built-ins that it leaves alone -/
structure Ck where
  N : List PySem.Str
  sc : Scope
  fn : Nat → Option PySem.Str
  blt : List PySem.Str
  gcd : Bool
def Ck.lk (k : Ck) (x : PySem.Str) : Option NameKind := k.sc.names.lookup x
def Ck.vis (k : Ck) (x : PySem.Str) : Bool := k.lk x == some .local || k.lk x == some .cell || k.lk x == some .free
def Ck.slot (k : Ck) (i : Nat) (x : PySem.Str) : Bool := k.N[i]? == some x && k.vis x && !(x == ("__debug__" : PySem.Str)) && !(x == ("__classdict__" : PySem.Str))
def Ck.locl (k : Ck) (i : Nat) (x : PySem.Str) : Bool := k.slot i x && (k.lk x == some .local || k.lk x == some .cell)
def Ck.glob (k : Ck) (x : PySem.Str) : Bool := k.lk x == some .globalImplicit && !(x == ("__debug__" : PySem.Str)) && !(x == ("__name__" : PySem.Str))
def biName : BI → PySem.Str
  | .len => "len" | .int => "int" | .abs => "abs" | .gcd => "gcd" | .max2 => "max" | .min2 => "min"
def Ck.bi (k : Ck) (f : BI) : Bool := match f with
  | .gcd => k.gcd
  | f => k.blt.contains (biName f)
def noSl : Expr → Bool
  | .Slice .. => false
  | .Tuple .. => false
  | _ => true
def isIf : Expr → Bool
  | .IfExp .. => true
  | _ => false
def noComp : Expr → Bool
  | .ListComp .. => false
  | .SetComp .. => false
  | .DictComp .. => false
  | _ => true
mutual
def ckE (k : Ck) : CE → Expr → Bool
  | .non, .Constant .none _ _ => true
  | .bl b, .Constant (.bool c) _ _ => b == c
  | .int i, .Constant (.int j) _ _ => i == j
  | .str s, .Constant (.str x) _ _ => s == x.cps.toList && s.all (· < 1114112)
  | .var i, .Name x _ => k.slot i x
  | .bor i, .Name x _ => k.slot i x
  | .mv i, .Name x _ => k.slot i x
  | .bin op a b, .BinOp l o r _ => (o == opOf op) && ckE k a l && ckE k b r
  | .neg a, .UnaryOp .USub e _ => ckE k a e
  | .cat a b, .BinOp l o r _ => (o == .Add) && ckE k a l && ckE k b r
  | .cmp op a b, .Compare l [o] [r] _ => (o == cmpOf op) && !(o == .In) && !(o == .NotIn) && ckE k a l && ckE k b r
  | .and a b, .BoolOp .And (l :: r :: rest) p => ckE k a l && !isIf l && (match rest with | [] => ckE k b r && !isIf r | x :: y => ckE k b (.BoolOp .And (r :: x :: y) p))
  | .or a b, .BoolOp .Or (l :: r :: rest) p => ckE k a l && !isIf l && (match rest with | [] => ckE k b r && !isIf r | x :: y => ckE k b (.BoolOp .Or (r :: x :: y) p))
  | .not a, .UnaryOp .Not e _ => ckE k a e && !isIf e
  | .ife c a b, .IfExp t x y _ => ckE k c t && !isIf t && ckE k a x && ckE k b y
  | .tup _ es, .Tuple xs _ _ => ckEs k es xs
  | .lst _ es, .List xs _ => ckEs k es xs
  | .idx a i, .Subscript l r _ => ckE k a l && ckE k i r && noSl r
  | .call f es, .Call (.Name x _) (e :: xs) [] _ => k.fn f == some x && k.glob x && ckEs k es (e :: xs)
  | .bi f es, .Call (.Name x _) (e :: xs) [] _ => x == biName f && k.glob x && k.bi f && ckEs k es (e :: xs)
  | .isi t c, .Call (.Name x _) [e, .Name y _] [] _ => x == ("isinstance" : PySem.Str) && k.glob x && k.blt.contains x && ckE k c e && y == PySem.Str.ofString (tyName t) && k.glob y && k.blt.contains y
  | _, _ => false
def ckEs (k : Ck) : CEs → List Expr → Bool
  | .nil, [] => true
  | .cons c cs, e :: es => ckE k c e && ckEs k cs es
  | _, _ => false
end
/-- what holds where a def's body (or a part of it) runs -/
structure Gd (T : Tb) (C : CF) (k : Ck) (X : Cx) (W : WX) : Prop where
  K : X.K = T.K
  calm : X.calm = true
  units : X.A.units + 200 < cLine
  tk : Takes X W
  N : X.N = k.N
  sc : X.env.scope = k.sc
  fk : k.sc.kind = .function
  nd : k.N.Nodup
  fnT : ∀ x, X.fn x = true
  pass : PassesOwn (model X.prog X.w) X.A X.env X.xe
  blt : ∀ x, k.blt.contains x = true → X.mg x = none
  gcd : k.gcd = true → X.mg "gcd" = some (.builtin "math.gcd")
  calls : ∀ f x, k.fn f = some x → ∃ fa fd ps j, FnOk X.prog X.w X.K X.mg X.base (L2.CX X.prog X.w) j fa fd ps (spC T (C f)) ∧ Room j X.A ∧ X.mg x = some (.ref fa) ∧ PySem.W.keepIn X.K (.ref fa) = true ∧ Binds X.K fd ps []
section
variable {T : Tb} {C : CF} {k : Ck} {X : Cx} {W : WX}
theorem Gd.slot (G : Gd T C k X W) {i : Nat} {x : PySem.Str} {p : Pos} (h : k.slot i x = true) : PE X (.Name x p) (tVar i) := by
  unfold Ck.slot at h
  simp only [Bool.and_eq_true, beq_iff_eq, Bool.not_eq_true'] at h
  obtain ⟨⟨⟨h1, h2⟩, h3⟩, h4⟩ := h
  refine pe_var (by rw [G.N]; exact h1) ?_ h3 h4
  unfold Ck.vis Ck.lk at h2
  simp only [Bool.or_eq_true, beq_iff_eq] at h2
  unfold Vis
  rw [G.sc]
  exact or_assoc.mp h2
theorem Gd.locl (G : Gd T C k X W) {i : Nat} {x : PySem.Str} (h : k.locl i x = true) : X.N[i]? = some x ∧ L2.Loc X.env.scope x := by
  unfold Ck.locl Ck.slot Ck.lk at h
  simp only [Bool.and_eq_true, Bool.or_eq_true, beq_iff_eq] at h
  refine ⟨by rw [G.N]; exact h.1.1.1.1, ?_⟩
  unfold L2.Loc
  rw [G.sc]
  exact h.2
theorem Gd.glob (G : Gd T C k X W) {x : PySem.Str} (h : k.glob x = true) : Gl X x ∧ (x == ("__debug__" : PySem.Str)) = false ∧ x ≠ "__name__" := by
  unfold Ck.glob Ck.lk at h
  simp only [Bool.and_eq_true, beq_iff_eq, Bool.not_eq_true'] at h
  refine ⟨?_, h.1.2, fun e => ?_⟩
  · show X.env.scope.names.lookup x = _
    rw [G.sc]; exact h.1.1
  · subst e; simp at h
theorem ck_star {c : CE} {e : Expr} {es : List Expr} {env : Env} (h : ckE k c e = true) : starEach (e :: es) env = (false, eval e env) :: starEach es env := by
  cases e <;> first | rfl | (cases c <;> simp [ckE] at h)
theorem ck_plain : ∀ {cs : CEs} {es : List Expr} {pos : Pos} {env : Env}, ckEs k cs es = true → (backTo pos (starEach es env)).any (·.1) = false := by
  intro cs es pos env
  induction es generalizing cs with
  | nil => intro _; rfl
  | cons e es ih =>
    intro h
    cases cs with
    | nil => simp [ckEs] at h
    | cons c cs =>
      simp only [ckEs, Bool.and_eq_true] at h
      rw [ck_star h.1]
      show (backTo pos ((false, eval e env) :: starEach es env)).any (·.1) = false
      have := ih (cs := cs) h.2
      simp only [backTo] at this ⊢
      simpa using this
theorem ck_ix {c : CE} {e : Expr} (h : ckE k c e = true) (n : noSl e = true) : PlainIx e := by
  intro o i
  cases e <;> first | rfl | (simp [noSl] at n) | (cases c <;> simp [ckE] at h)
end

/-- what is known of an expression that was checked -/
structure SE (T : Tb) (C : CF) (X : Cx) (W : WX) (c : CE) (e : Expr) : Prop where
  pe : PE X e (tE T C W c)
  pt : isIf e = false → PT X e (tT T C W c)
  pw : ∀ op vs p, e = .BoolOp op vs p → PW X e (tT T C W c)
section
variable {T : Tb} {C : CF} {k : Ck} {X : Cx} {W : WX}
theorem SE.plain {c : CE} {e : Expr} (hK : X.K = T.K) (pe : PE X e (tE T C W c)) (he : ∀ whole, isTrue e X.env whole = (do let v ← whole; standAt e.pos; holding [v] (truthy v))) (hb : ∀ op vs p, e ≠ .BoolOp op vs p) : SE T C X W c e :=
  ⟨pe, fun _ => snd_truth hK pe he, fun op vs p q => absurd q (hb op vs p)⟩
theorem bt_boot_tuple : bootBuiltins "tuple" = some (.type "tuple") := by decide +kernel
theorem bt_boot_list : bootBuiltins "list" = some (.type "list") := by decide +kernel
theorem bt_boot_str : bootBuiltins "str" = some (.type "str") := by decide +kernel
theorem bt_boot_bool : bootBuiltins "bool" = some (.type "bool") := by decide +kernel
theorem bt_boot_ty (t : Ty) : bootBuiltins (PySem.Str.ofString (tyName t)) = some (.type (tyName t)) := by
  cases t
  · decide +kernel
  · exact bt_boot_bool
  · exact bt_boot_str
  · exact bt_boot_tuple
  · exact bt_boot_list
/-- isinstance's second argument -/
theorem snd_isi {c : CE} {e : Expr} {t : Ty} {y : PySem.Str} {p1 p2 pos : Pos} (G : Gd T C k X W) (h : PE X e (tE T C W c)) (he : ckE k c e = true) (hy : y = PySem.Str.ofString (tyName t)) (gy : k.glob y = true) (by' : k.blt.contains y = true) (gx : k.glob "isinstance" = true) (bx : k.blt.contains "isinstance" = true) :
    PE X (.Call (.Name "isinstance" p1) [e, .Name y p2] [] pos) (tE T C W (.isi t c)) := by
  have g1 := G.glob gx
  have g2 := G.glob gy
  have hb : bootBuiltins y = some (.type (tyName t)) := by rw [hy]; exact bt_boot_ty t
  have p2' : PE X (.Name y p2) (tC (.ty (tyName t))) := pe_bltn g2.1 (G.blt y by') hb rfl g2.2.2 g2.2.1
  have pa : PA X [e, .Name y p2] (tCons (tE T C W c) (tCons (tC (.ty (tyName t))) tNil)) := pa_cons h (pa_cons p2' pa_nil) (ck_star he)
  refine PE.weak (pe_callB (cr_isT (T := T) G.K t) g1.1 (G.blt _ bx) (by decide +kernel) pa (by decide) (by decide) (ck_star he) rfl) fun σ H Q ⟨b, s, eH, A, q⟩ => ?_
  subst eH
  unfold evalE at q
  refine ⟨b, s, rfl, A, (Post.seq (Go.refl b) q).mono fun v H1 ⟨x, s1, b1, o1, e1, g1, A1, E1, h1⟩ => ?_⟩
  subst e1
  obtain ⟨r, hr, h2⟩ := Post.liftB h1
  exact ⟨b1.ρ, x.d, v, r, rfl, E1.see, hr, h2.fin0 g1 A1 rfl (.bl (Φ := fun _ => none) _)⟩
mutual
theorem sndE (G : Gd T C k X W) : ∀ (c : CE) (e : Expr), ckE k c e = true → SE T C X W c e
  | .non, e, h => by
    cases e <;> try (simp [ckE] at h; done)
    rename_i v j p
    cases v <;> try (simp [ckE] at h; done)
    exact .plain G.K (snd_c pe_non (fun _ => by simp only [evalE]) rfl fun _ _ => .non) (fun _ => rfl) (fun _ _ _ q => by cases q)
  | .bl b, e, h => by
    cases e <;> try (simp [ckE] at h; done)
    rename_i v j p
    cases v <;> try (simp [ckE] at h; done)
    simp only [ckE, beq_iff_eq] at h
    subst h
    exact .plain G.K (snd_c pe_bl (fun _ => by simp only [evalE]) rfl fun _ _ => .bl _) (fun _ => rfl) (fun _ _ _ q => by cases q)
  | .int i, e, h => by
    cases e <;> try (simp [ckE] at h; done)
    rename_i v j p
    cases v <;> try (simp [ckE] at h; done)
    simp only [ckE, beq_iff_eq] at h
    subst h
    exact .plain G.K (snd_c pe_int (fun _ => by simp only [evalE]) rfl fun _ _ => .int _) (fun _ => rfl) (fun _ _ _ q => by cases q)
  | .str s, e, h => by
    cases e <;> try (simp [ckE] at h; done)
    rename_i v j p
    cases v <;> try (simp [ckE] at h; done)
    rename_i x
    simp only [ckE, Bool.and_eq_true, beq_iff_eq] at h
    have hx : x = sv s := by
      cases x
      rw [h.1]
    subst hx
    exact .plain G.K (snd_c pe_str (fun _ => by simp only [evalE]) rfl fun _ _ => .str _ h.2) (fun _ => rfl) (fun _ _ _ q => by cases q)
  | .var i, e, h => by
    cases e <;> try (simp [ckE] at h; done)
    simp only [ckE] at h
    exact .plain G.K (snd_var (G.slot h)) (fun _ => rfl) (fun _ _ _ q => by cases q)
  | .bor i, e, h => by
    cases e <;> try (simp [ckE] at h; done)
    simp only [ckE] at h
    exact .plain G.K (snd_bor (G.slot h)) (fun _ => rfl) (fun _ _ _ q => by cases q)
  | .mv i, e, h => by
    cases e <;> try (simp [ckE] at h; done)
    simp only [ckE] at h
    exact .plain G.K (snd_mv (G.slot h)) (fun _ => rfl) (fun _ _ _ q => by cases q)
  | .bin op a b, e, h => by
    cases e <;> try (simp [ckE] at h; done)
    simp only [ckE, Bool.and_eq_true, beq_iff_eq] at h
    obtain ⟨⟨rfl, h1⟩, h2⟩ := h
    exact .plain G.K (snd_bin (sndE G a _ h1).pe (sndE G b _ h2).pe) (fun _ => rfl) (fun _ _ _ q => by cases q)
  | .cat a b, e, h => by
    cases e <;> try (simp [ckE] at h; done)
    simp only [ckE, Bool.and_eq_true, beq_iff_eq] at h
    obtain ⟨⟨rfl, h1⟩, h2⟩ := h
    exact .plain G.K (snd_cat G.K (sndE G a _ h1).pe (sndE G b _ h2).pe) (fun _ => rfl) (fun _ _ _ q => by cases q)
  | .neg a, e, h => by
    cases e <;> try (simp [ckE] at h; done)
    rename_i op x p
    cases op <;> try (simp [ckE] at h; done)
    simp only [ckE] at h
    exact .plain G.K (snd_neg (sndE G a _ h).pe) (fun _ => rfl) (fun _ _ _ q => by cases q)
  | .cmp op a b, e, h => by
    cases e <;> try (simp [ckE] at h; done)
    rename_i l ops cs p
    match ops, cs, h with
    | [o], [r], h =>
      simp only [ckE, Bool.and_eq_true, beq_iff_eq, Bool.not_eq_true'] at h
      obtain ⟨⟨⟨⟨rfl, n1⟩, n2⟩, h1⟩, h2⟩ := h
      have hm : behindInMarks (cmpOf op) r = false := nobehind _ (by intro z; rw [z] at n1; simp at n1) (by intro z; rw [z] at n2; simp at n2)
      exact ⟨snd_cmp G.K G.units (sndE G a _ h1).pe (sndE G b _ h2).pe hm, fun _ => snd_cmpT G.K G.units (sndE G a _ h1).pe (sndE G b _ h2).pe hm, fun _ _ _ q => by cases q⟩
    | [], _, h => simp [ckE] at h
    | _ :: _ :: _, _, h => simp [ckE] at h
    | [_], [], h => simp [ckE] at h
    | [_], _ :: _ :: _, h => simp [ckE] at h
  | .and a b, e, h => by
    cases e <;> try (simp [ckE] at h; done)
    rename_i op vs p
    cases op <;> try (simp [ckE] at h; done)
    match vs, h with
    | [l, r], h =>
      simp only [ckE, Bool.and_eq_true, Bool.not_eq_true'] at h
      obtain ⟨⟨h1, n1⟩, h2, n2⟩ := h
      have w := snd_andT (pos := p) ((sndE G a _ h1).pt n1) (pw_and1 ((sndE G b _ h2).pt n2))
      exact ⟨snd_and G.K (sndE G a _ h1).pe (pe_one (sndE G b _ h2).pe), fun _ => w.pt, fun _ _ _ _ => w⟩
    | l :: r :: x :: y, h =>
      simp only [ckE, Bool.and_eq_true, Bool.not_eq_true'] at h
      obtain ⟨⟨h1, n1⟩, h2⟩ := h
      have w := snd_andT (pos := p) ((sndE G a _ h1).pt n1) ((sndE G b _ h2).pw _ _ _ rfl)
      exact ⟨snd_and G.K (sndE G a _ h1).pe (sndE G b _ h2).pe, fun _ => w.pt, fun _ _ _ _ => w⟩
    | [], h => simp [ckE] at h
    | [_], h => simp [ckE] at h
  | .or a b, e, h => by
    cases e <;> try (simp [ckE] at h; done)
    rename_i op vs p
    cases op <;> try (simp [ckE] at h; done)
    match vs, h with
    | [l, r], h =>
      simp only [ckE, Bool.and_eq_true, Bool.not_eq_true'] at h
      obtain ⟨⟨h1, n1⟩, h2, n2⟩ := h
      have w := snd_orT (pos := p) ((sndE G a _ h1).pt n1) (pw_or1 ((sndE G b _ h2).pt n2))
      exact ⟨snd_or G.K (sndE G a _ h1).pe (pe_one (sndE G b _ h2).pe), fun _ => w.pt, fun _ _ _ _ => w⟩
    | l :: r :: x :: y, h =>
      simp only [ckE, Bool.and_eq_true, Bool.not_eq_true'] at h
      obtain ⟨⟨h1, n1⟩, h2⟩ := h
      have w := snd_orT (pos := p) ((sndE G a _ h1).pt n1) ((sndE G b _ h2).pw _ _ _ rfl)
      exact ⟨snd_or G.K (sndE G a _ h1).pe (sndE G b _ h2).pe, fun _ => w.pt, fun _ _ _ _ => w⟩
    | [], h => simp [ckE] at h
    | [_], h => simp [ckE] at h
  | .not a, e, h => by
    cases e <;> try (simp [ckE] at h; done)
    rename_i op x p
    cases op <;> try (simp [ckE] at h; done)
    simp only [ckE, Bool.and_eq_true, Bool.not_eq_true'] at h
    exact ⟨snd_not G.K (sndE G a _ h.1).pe, fun _ => snd_notT ((sndE G a _ h.1).pt h.2), fun _ _ _ q => by cases q⟩
  | .ife c a b, e, h => by
    cases e <;> try (simp [ckE] at h; done)
    simp only [ckE, Bool.and_eq_true, Bool.not_eq_true'] at h
    obtain ⟨⟨⟨h1, n1⟩, h2⟩, h3⟩ := h
    exact ⟨snd_ife ((sndE G c _ h1).pt n1) (sndE G a _ h2).pe (sndE G b _ h3).pe, fun q => by simp [isIf] at q, fun _ _ _ q => by cases q⟩
  | .tup j es, e, h => by
    cases e <;> try (simp [ckE] at h; done)
    simp only [ckE] at h
    exact .plain G.K (snd_tup (sndEs G es _ h)) (fun _ => rfl) (fun _ _ _ q => by cases q)
  | .lst j es, e, h => by
    cases e <;> try (simp [ckE] at h; done)
    simp only [ckE] at h
    exact .plain G.K (snd_lst (sndEs G es _ h)) (fun _ => rfl) (fun _ _ _ q => by cases q)
  | .idx a i, e, h => by
    cases e <;> try (simp [ckE] at h; done)
    simp only [ckE, Bool.and_eq_true] at h
    obtain ⟨⟨h1, h2⟩, h3⟩ := h
    exact .plain G.K (snd_idx G.K (sndE G a _ h1).pe (sndE G i _ h2).pe (ck_ix h2 h3)) (fun _ => rfl) (fun _ _ _ q => by cases q)
  | .call f es, e, h => by
    cases e <;> try (simp [ckE] at h; done)
    rename_i g args kws p
    cases g <;> try (simp [ckE] at h; done)
    rename_i x px
    match args, kws, h with
    | a :: as, [], h =>
      simp only [ckE, Bool.and_eq_true, beq_iff_eq] at h
      obtain ⟨⟨h1, h2⟩, h3⟩ := h
      obtain ⟨fa, fd, ps, j, F, hr, hm, hk, hb⟩ := G.calls f x h1
      have g := G.glob h2
      cases es with
      | nil => simp [ckEs] at h3
      | cons c cs =>
        have h4 := h3
        simp only [ckEs, Bool.and_eq_true] at h4
        exact .plain G.K (snd_call F hr g.1 hm hk hb G.tk (sndEs G (.cons c cs) _ h3) g.2.1 (ck_star h4.1) (ck_plain h4.2)) (fun _ => rfl) (fun _ _ _ q => by cases q)
    | [], _, h => simp [ckE] at h
    | _ :: _, _ :: _, h => simp [ckE] at h
  | .isi t c, e, h => by
    cases e <;> try (simp [ckE] at h; done)
    rename_i g args kws p
    cases g <;> try (simp [ckE] at h; done)
    rename_i x px
    match args, kws, h with
    | [a, y0], [], h =>
      cases y0 <;> try (simp [ckE] at h; done)
      rename_i y py
      simp only [ckE, Bool.and_eq_true, beq_iff_eq] at h
      obtain ⟨⟨⟨⟨⟨⟨rfl, h2⟩, h3⟩, h4⟩, h5⟩, h6⟩, h7⟩ := h
      exact .plain G.K (snd_isi G (sndE G c _ h4).pe h4 h5 h6 h7 h2 h3) (fun _ => rfl) (fun _ _ _ q => by cases q)
    | _, _ :: _, h => simp [ckE] at h
    | [], [], h => simp [ckE] at h
    | [_], [], h => simp [ckE] at h
    | _ :: _ :: _ :: _, [], h => simp [ckE] at h
  | .bi f es, e, h => by
    cases e <;> try (simp [ckE] at h; done)
    rename_i g args kws p
    cases g <;> try (simp [ckE] at h; done)
    rename_i x px
    match args, kws, h with
    | a :: as, [], h =>
      simp only [ckE, Bool.and_eq_true, beq_iff_eq] at h
      obtain ⟨⟨⟨rfl, h2⟩, h3⟩, h4⟩ := h
      have g := G.glob h2
      have pa := sndEs G es _ h4
      have hs : starEach (a :: as) X.env = (false, eval a X.env) :: starEach as X.env ∧ (backTo p (starEach as X.env)).any (·.1) = false := by
        cases es with
        | nil => simp [ckEs] at h4
        | cons c cs =>
          simp only [ckEs, Bool.and_eq_true] at h4
          exact ⟨ck_star h4.1, ck_plain h4.2⟩
      obtain ⟨hs, hp⟩ := hs
      have fin : ∀ {σ : St} {H : Hp} {Q : VK}, tE T C W (.bi f es) σ H Q → tCB (rBI T f) (tEs T C W es) σ H Q := fun {σ H Q} ⟨b, s, eH, A, q⟩ => by
        subst eH; exact bi_weak A q
      have mk : ∀ {id : String}, CallR X (.builtin id) (rBI T f) → bootBuiltins (biName f) = some (.builtin id) → k.blt.contains (biName f) = true → SE T C X W (.bi f es) (.Call (.Name (biName f) px) (a :: as) [] p) := fun {id} hc hb h3 =>
        .plain G.K (PE.weak (pe_callB hc g.1 (G.blt _ h3) hb pa g.2.2 g.2.1 hs hp) fun _ _ _ => fin) (fun _ => rfl) (fun _ _ _ q => by cases q)
      cases f with
      | len => exact mk (cr_len G.K) (by decide +kernel) h3
      | abs => exact mk cr_abs (by decide +kernel) h3
      | max2 => exact mk (cr_max2 G.calm) (by decide +kernel) h3
      | min2 => exact mk (cr_min2 G.calm) (by decide +kernel) h3
      | int => exact .plain G.K (PE.weak (pe_callTy cr_int g.1 (G.blt _ h3) (by decide +kernel) pa g.2.2 g.2.1 hs hp) fun _ _ _ => fin) (fun _ => rfl) (fun _ _ _ q => by cases q)
      | gcd => exact .plain G.K (PE.weak (pe_callBfun cr_gcdB g.1 (G.gcd h3) pa g.2.1 hs hp) fun _ _ _ => fin) (fun _ => rfl) (fun _ _ _ q => by cases q)
    | [], _, h => simp [ckE] at h
    | _ :: _, _ :: _, h => simp [ckE] at h
theorem sndEs (G : Gd T C k X W) : ∀ (cs : CEs) (es : List Expr), ckEs k cs es = true → PA X es (tEs T C W cs)
  | .nil, es, h => by
    cases es with
    | nil => exact snd_nil
    | cons _ _ => simp [ckEs] at h
  | .cons c cs, es, h => by
    cases es with
    | nil => simp [ckEs] at h
    | cons e es =>
      simp only [ckEs, Bool.and_eq_true] at h
      exact snd_cons (sndE G c e h.1).pe (sndEs G cs es h.2) (ck_star h.1)
end
end
end BT
end

section
/-! BtDef: checked statements; the defs of a text; the law. -/
namespace BT
open PySem PySem.Spec L2
open PyProof.Rows hiding St
set_option autoImplicit false

def ckTs (k : Ck) : List Nat → List Expr → Bool
  | [], [] => true
  | i :: is, .Name x _ :: es => k.locl i x && ckTs k is es
  | _, _ => false
def ckTg (k : Ck) : Tg → Expr → Bool
  | .name i, .Name x _ => k.locl i x
  | .tup is, .Tuple ts _ _ => ckTs k is ts
  | _, _ => false
def isTupE : Expr → Bool
  | .Tuple .. => true
  | _ => false
def isSetE : Expr → Bool
  | .Set .. => true
  | _ => false
def isStar : Expr → Bool
  | .Starred .. => true
  | _ => false
/-- two names on one line take two values, stored from the right -/
def swapOk (k : Ck) (x y : PySem.Str) (px py : Pos) (e f : Expr) : Bool :=
  k.lk x == some .local && k.lk y == some .local && py.line == px.line && !(x == y) && !isStar e && !isStar f && !([e, f].all (foldedForSure 8)) && !([e, f].all (constantsAlone 8))
mutual
def ckS (k : Ck) : CS → Stmt → Bool
  | .pass, .Pass _ => true
  | .brk, .Break _ => true
  | .cont, .Continue _ => true
  | .ret c, .Return (some e) _ => ckE k c e
  | .retN, .Return none _ => true
  | .expr c, .Expr e _ => ckE k c e
  | .app i c, .Expr (.Call (.Attribute (.Name x _) m p1) [e] [] p2) _ => k.slot i x && m == ("append" : PySem.Str) && ckE k c e && p1.endLine == p2.line
  | .asg (.name i) c, .Assign [.Name x _] e _ => k.locl i x && ckE k c e
  | .asg (.tup is) c, .Assign [.Tuple ts _ _] e _ => ckTs k is ts && ckE k c e && !isTupE e
  | .par i j a b, .Assign [.Tuple [.Name x px, .Name y py] _ _] (.Tuple [e, f] _ _) _ => !(i == j) && k.locl i x && k.locl j y && swapOk k x y px py e f && ckE k a e && ckE k b f
  | .aug i op c, .AugAssign (.Name x _) o e _ => k.locl i x && o == opOf op && ckE k c e
  | .ifs c a b, .If e x y _ => ckE k c e && !isIf e && ckSs k a x && ckSs k b y
  | .for t (.range1 c) b, .For tg (.Call (.Name r _) [e] [] _) body [] _ => ckTg k t tg && r == ("range" : PySem.Str) && k.glob r && k.blt.contains r && ckE k c e && ckSs k b body
  | .for t (.val c) b, .For tg e body [] _ => ckTg k t tg && ckE k c e && !isSetE e && ckSs k b body
  | .whl c b, .While e body [] _ => ckE k c e && !isIf e && ckSs k b body
  | _, _ => false
def ckSs (k : Ck) : CSs → List Stmt → Bool
  | .nil, [] => true
  | .cons c cs, s :: ss => ckS k c s && ckSs k cs ss
  | _, _ => false
end
section
variable {T : Tb} {C : CF} {k : Ck} {X : Cx} {W : WX} {Wf : Nat}
theorem ck_noComp {c : CE} {e : Expr} (h : ckE k c e = true) : noComp e = true := by
  cases e <;> first | rfl | (cases c <;> simp [ckE] at h)
theorem sw_none {e : Expr} {t : Option Expr} {l : Nat} {env : Env} (h : noComp e = true) : swapsWith e t l env = pure false := by
  cases e <;> first | rfl | (simp [noComp] at h)
theorem ck_fold {c : CE} {e : Expr} {env : Env} (h : ckE k c e = true) : ∀ x, foldedSetIterable e env x = pure x := by
  intro x
  cases e <;> first | rfl | (cases c <;> simp [ckE] at h)
theorem swapOk_eq {x y : PySem.Str} {px py pt pt2 : Pos} {kt k2 : Nat} {e f : Expr} {env : Env} (hs : env.scope = k.sc) (hk : k.sc.kind = .function) (h : swapOk k x y px py e f = true) :
    swappedStores [.Tuple [.Name x px, .Name y py] kt pt] (.Tuple [e, f] k2 pt2) env = pure (some [x, y]) := by
  unfold swapOk Ck.lk at h
  simp only [Bool.and_eq_true, beq_iff_eq, Bool.not_eq_true'] at h
  obtain ⟨⟨⟨⟨⟨⟨⟨h1, h2⟩, h3⟩, h4⟩, h5⟩, h6⟩, h7⟩, h8⟩ := h
  have kx : env.kindOf x = some .local := by show env.scope.names.lookup x = _; rw [hs]; exact h1
  have ky : env.kindOf y = some .local := by show env.scope.names.lookup y = _; rw [hs]; exact h2
  have bk : env.blockKind = .function := by
    unfold Env.blockKind
    rw [hs, hk]
    rfl
  have ne : x ≠ y := by simpa using h4
  have h7' : (foldedForSure 8 e && foldedForSure 8 f) = false := by simpa using h7
  have h8' : (constantsAlone 8 e && constantsAlone 8 f) = false := by simpa using h8
  unfold swappedStores
  simp only [bk, List.length_cons, List.length_nil, Expr.pos, List.head?_cons, Option.map_some, Option.getD_some, List.all_cons, List.all_nil, Bool.and_true]
  rw [if_neg (by decide)]
  rw [if_neg (show ¬ ([e, f].any _ = true) from fun z => by
    simp only [List.any_cons, List.any_nil, Bool.or_false, Bool.or_eq_true] at z
    rcases z with z | z
    · cases e <;> first | (exact Bool.false_ne_true z) | (simp [isStar] at h5)
    · cases f <;> first | (exact Bool.false_ne_true z) | (simp [isStar] at h6))]
  rw [h7', h8']
  simp [kx, ky, h3, ne, Ne.symm ne, List.eraseDups_cons]
theorem pgs_slots (G : Gd T C k X W) : ∀ {is : List Nat} {es : List Expr}, ckTs k is es = true → PGs X es (gSlots is) ∧ (assignEach es X.env).length = is.length ∧ (assignEach es X.env).findIdx? (·.1) = none
  | [], [], _ => ⟨pgs_nil, rfl, rfl⟩
  | i :: is, .Name x p :: es, h => by
    simp only [ckTs, Bool.and_eq_true] at h
    obtain ⟨h1, h2, h3⟩ := pgs_slots G h.2
    obtain ⟨n1, n2⟩ := G.locl h.1
    refine ⟨pgs_cons (pg_name (by rw [G.N]; exact G.nd) n1 n2 (.inl (G.fnT x))) h1 rfl, by show (assignEach es X.env).length + 1 = _; rw [h2] <;> rfl, ?_⟩
    show List.findIdx? _ ((false, _) :: assignEach es X.env) = none
    rw [List.findIdx?_cons, h3]
    rfl
theorem pg_tg (G : Gd T C k X W) : ∀ {t : Tg} {e : Expr}, ckTg k t e = true → ∃ gt, PG X e gt ∧ TgOk T t gt := by
  intro t e h
  cases t with
  | name i =>
    cases e <;> try (simp [ckTg] at h; done)
    simp only [ckTg] at h
    obtain ⟨n1, n2⟩ := G.locl h
    exact ⟨_, pg_name (by rw [G.N]; exact G.nd) n1 n2 (.inl (G.fnT _)), tg_name⟩
  | tup is =>
    cases e <;> try (simp [ckTg] at h; done)
    simp only [ckTg] at h
    obtain ⟨h1, h2, h3⟩ := pgs_slots G h
    exact ⟨_, pg_tup G.calm h1 h2 h3, tg_tup G.K⟩
theorem sndS_pass (G : Gd T C k X W) : ∀ st : Stmt, ckS k (.pass) st = true → PS X st (tS T C Wf W (.pass)) := by
  intro st h
  cases st <;> first | exact ss_pass | (simp [ckS] at h)
theorem sndS_brk (G : Gd T C k X W) : ∀ st : Stmt, ckS k (.brk) st = true → PS X st (tS T C Wf W (.brk)) := by
  intro st h
  cases st <;> first | exact ss_brk | (simp [ckS] at h)
theorem sndS_cont (G : Gd T C k X W) : ∀ st : Stmt, ckS k (.cont) st = true → PS X st (tS T C Wf W (.cont)) := by
  intro st h
  cases st <;> first | exact ss_cont | (simp [ckS] at h)
theorem sndS_ret_c (G : Gd T C k X W) {c : CE} : ∀ st : Stmt, ckS k (.ret c) st = true → PS X st (tS T C Wf W (.ret c)) := by
  intro st h
  cases st <;> try (simp [ckS] at h; done)
  rename_i v p
  cases v with
  | none => simp [ckS] at h
  | some e => simp only [ckS] at h; exact ss_ret (sndE G c e h).pe
theorem sndS_retN (G : Gd T C k X W) : ∀ st : Stmt, ckS k (.retN) st = true → PS X st (tS T C Wf W (.retN)) := by
  intro st h
  cases st <;> try (simp [ckS] at h; done)
  rename_i v p
  cases v with
  | none => exact ss_retN
  | some e => simp [ckS] at h
theorem sndS_expr_c (G : Gd T C k X W) {c : CE} : ∀ st : Stmt, ckS k (.expr c) st = true → PS X st (tS T C Wf W (.expr c)) := by
  intro st h
  cases st <;> try (simp [ckS] at h; done)
  simp only [ckS] at h
  exact ss_expr (sndE G c _ h).pe (sw_none (ck_noComp h))
theorem sndS_app_i_c (G : Gd T C k X W) {i : Nat} {c : CE} : ∀ st : Stmt, ckS k (.app i c) st = true → PS X st (tS T C Wf W (.app i c)) := by
  intro st h
  cases st <;> try (simp [ckS] at h; done)
  rename_i e p
  cases e <;> try (simp [ckS] at h; done)
  rename_i f as ks p2
  cases f <;> try (simp [ckS] at h; done)
  rename_i o m p1
  cases o <;> try (simp [ckS] at h; done)
  rename_i x px
  match as, ks, h with
  | [e], [], h =>
    simp only [ckS, Bool.and_eq_true, beq_iff_eq] at h
    obtain ⟨⟨⟨h1, rfl⟩, h3⟩, h4⟩ := h
    have hv := G.slot (p := px) h1
    have hs := ck_star (es := []) (env := X.env) h3
    have pa : PA X [e] (tEs T C W (.cons c .nil)) := snd_cons (sndE G c e h3).pe snd_nil hs
    have hline : (p1.endLine == p2.line) = true := by rw [h4]; exact beq_self_eq_true _
    refine ss_app G.K hv (sndE G c e h3).pe hs (pe_bm PySem.F.plainAttrs_list PySem.F.slot_list_append PySem.F.type_list_append mt_append hv pa rfl ?_ hline hs rfl) (sw_none rfl)
    rw [hs]
    rfl
  | [], _, h => simp [ckS] at h
  | _ :: _ :: _, _, h => simp [ckS] at h
  | [_], _ :: _, h => simp [ckS] at h
theorem inv_asg1 {i : Nat} {c : CE} {st : Stmt} (h : ckS k (.asg (.name i) c) st = true) : ∃ x px e p, st = .Assign [.Name x px] e p ∧ k.locl i x = true ∧ ckE k c e = true := by
  unfold ckS at h
  split at h <;> first | (exact absurd h Bool.false_ne_true) | skip
  all_goals try (rename_i he; cases he; done)
  rename_i he
  cases he
  rw [Bool.and_eq_true] at h
  exact ⟨_, _, _, _, rfl, h.1, h.2⟩
theorem sndS_asg_name_i_c (G : Gd T C k X W) {i : Nat} {c : CE} : ∀ st : Stmt, ckS k (.asg (.name i) c) st = true → PS X st (tS T C Wf W (.asg (.name i) c)) := by
  intro st h
  obtain ⟨x, px, e, p, rfl, h1, h2⟩ := inv_asg1 h
  obtain ⟨n1, n2⟩ := G.locl h1
  exact ss_set (by rw [G.N]; exact G.nd) n1 n2 (G.fnT x) (sndE G c e h2).pe (sw_none (ck_noComp h2))
theorem inv_asg2 {is : List Nat} {c : CE} {st : Stmt} (h : ckS k (.asg (.tup is) c) st = true) : ∃ ts kt pt e p, st = .Assign [.Tuple ts kt pt] e p ∧ ckTs k is ts = true ∧ ckE k c e = true ∧ isTupE e = false := by
  unfold ckS at h
  split at h <;> first | (exact absurd h Bool.false_ne_true) | skip
  all_goals try (rename_i he; cases he; done)
  rename_i he
  cases he
  simp only [Bool.and_eq_true, Bool.not_eq_true'] at h
  exact ⟨_, _, _, _, _, rfl, h.1.1, h.1.2, h.2⟩
theorem sndS_asg_tup_is_c (G : Gd T C k X W) {is : List Nat} {c : CE} : ∀ st : Stmt, ckS k (.asg (.tup is) c) st = true → PS X st (tS T C Wf W (.asg (.tup is) c)) := by
  intro st h
  obtain ⟨ts, kt, pt, e, p, rfl, h1, h2, h3⟩ := inv_asg2 h
  obtain ⟨g1, g2, g3⟩ := pgs_slots G h1
  refine ss_unp G.K (sndE G c e h2).pe (pg_tup G.calm g1 g2 g3) (by rw [swapsWithSole]; exact sw_none (ck_noComp h2)) ?_ rfl
  cases e <;> first | rfl | (simp [isTupE] at h3)
theorem inv_par {i j : Nat} {a b : CE} {st : Stmt} (h : ckS k (.par i j a b) st = true) : ∃ x px y py kt pt e f k2 pt2 p, st = .Assign [.Tuple [.Name x px, .Name y py] kt pt] (.Tuple [e, f] k2 pt2) p ∧
    (i == j) = false ∧ k.locl i x = true ∧ k.locl j y = true ∧ swapOk k x y px py e f = true ∧ ckE k a e = true ∧ ckE k b f = true := by
  unfold ckS at h
  split at h <;> first | (exact absurd h Bool.false_ne_true) | skip
  all_goals try (rename_i he; cases he; done)
  rename_i he
  cases he
  simp only [Bool.and_eq_true, Bool.not_eq_true'] at h
  exact ⟨_, _, _, _, _, _, _, _, _, _, _, rfl, h.1.1.1.1.1, h.1.1.1.1.2, h.1.1.1.2, h.1.1.2, h.1.2, h.2⟩
theorem sndS_par_i_j_a_b (G : Gd T C k X W) {i j : Nat} {a b : CE} : ∀ st : Stmt, ckS k (.par i j a b) st = true → PS X st (tS T C Wf W (.par i j a b)) := by
  intro st h
  obtain ⟨x, px, y, py, kt, pt, e, f, k2, pt2, p, rfl, h1, h2, h3, h4, h5, h6⟩ := inv_par h
  obtain ⟨n1, n2⟩ := G.locl h2
  obtain ⟨m1, m2⟩ := G.locl h3
  have h4' := h4
  unfold swapOk Ck.lk at h4'
  simp only [Bool.and_eq_true, beq_iff_eq] at h4'
  exact ss_par G.calm (by rw [G.N]; exact G.nd) n1 m1 (by simpa using h1) (by rw [G.sc]; exact h4'.1.1.1.1.1.1.1) (by rw [G.sc]; exact h4'.1.1.1.1.1.1.2)
    (snd_cons (sndE G a e h5).pe (snd_cons (sndE G b f h6).pe snd_nil (ck_star h6)) (ck_star h5)) (swapOk_eq G.sc G.fk h4) (by rw [swapsWithSole]; exact sw_none rfl)
theorem sndS_aug_i_op_c (G : Gd T C k X W) {i : Nat} {op : BOp} {c : CE} : ∀ st : Stmt, ckS k (.aug i op c) st = true → PS X st (tS T C Wf W (.aug i op c)) := by
  intro st h
  cases st <;> try (simp [ckS] at h; done)
  rename_i t o e p
  cases t <;> try (simp [ckS] at h; done)
  simp only [ckS, Bool.and_eq_true, beq_iff_eq] at h
  obtain ⟨⟨h1, rfl⟩, h3⟩ := h
  obtain ⟨n1, n2⟩ := G.locl h1
  exact ss_aug (by rw [G.N]; exact G.nd) n1 n2 (G.fnT _) (sndE G c e h3).pe
theorem sndS_setI_i_ix_e (G : Gd T C k X W) {i : Nat} {ix : CE} {e : CE} : ∀ st : Stmt, ckS k (.setI i ix e) st = true → PS X st (tS T C Wf W (.setI i ix e)) := by
  intro st h
  cases st <;> simp [ckS] at h
theorem sndS_ifs_c_a_b (G : Gd T C k X W) {c : CE} {a : CSs} {b : CSs} (Ha : ∀ sts, ckSs k a sts = true → PSs X sts (tSs T C Wf W a)) (Hb : ∀ sts, ckSs k b sts = true → PSs X sts (tSs T C Wf W b)) : ∀ st : Stmt, ckS k (.ifs c a b) st = true → PS X st (tS T C Wf W (.ifs c a b)) := by
  intro st h
  cases st <;> try (simp [ckS] at h; done)
  simp only [ckS, Bool.and_eq_true, Bool.not_eq_true'] at h
  exact ss_if ((sndE G c _ h.1.1.1).pt h.1.1.2) (Ha _ h.1.2) (Hb _ h.2)
theorem inv_for1 {t : Tg} {c : CE} {b : CSs} {st : Stmt} (h : ckS k (.for t (.range1 c) b) st = true) : ∃ tg r pr e pe body p, st = .For tg (.Call (.Name r pr) [e] [] pe) body [] p ∧
    ckTg k t tg = true ∧ r = ("range" : PySem.Str) ∧ k.glob r = true ∧ k.blt.contains r = true ∧ ckE k c e = true ∧ ckSs k b body = true := by
  unfold ckS at h
  split at h <;> first | (exact absurd h Bool.false_ne_true) | skip
  all_goals try (rename_i he; cases he; done)
  rename_i he
  cases he
  simp only [Bool.and_eq_true, beq_iff_eq] at h
  exact ⟨_, _, _, _, _, _, _, rfl, h.1.1.1.1.1, h.1.1.1.1.2, h.1.1.1.2, h.1.1.2, h.1.2, h.2⟩
theorem sndS_for_t_range1_c_b (G : Gd T C k X W) {t : Tg} {c : CE} {b : CSs} (Hb : ∀ sts, ckSs k b sts = true → PSs X sts (tSs T C Wf W b)) : ∀ st : Stmt, ckS k (.for t (.range1 c) b) st = true → PS X st (tS T C Wf W (.for t (.range1 c) b)) := by
  intro st h
  obtain ⟨tg, r, pr, e, pe, body, p, rfl, h1, rfl, h2, h3, h4, h5⟩ := inv_for1 h
  obtain ⟨gt, pg, ok⟩ := pg_tg G h1
  have hs := ck_star (es := []) (env := X.env) h4
  exact ss_range1 G.pass G.calm (G.glob h2).1 (G.blt _ h3) pg ok (snd_cons (sndE G c e h4).pe snd_nil hs) hs (Hb body h5)
theorem sndS_for_t_range2_c_d_b (G : Gd T C k X W) {t : Tg} {c d : CE} {b : CSs} : ∀ st : Stmt, ckS k (.for t (.range2 c d) b) st = true → PS X st (tS T C Wf W (.for t (.range2 c d) b)) := by
  intro st h
  unfold ckS at h
  exact absurd h Bool.false_ne_true
theorem inv_for3 {t : Tg} {c : CE} {b : CSs} {st : Stmt} (h : ckS k (.for t (.val c) b) st = true) : ∃ tg e body p, st = .For tg e body [] p ∧
    ckTg k t tg = true ∧ ckE k c e = true ∧ ckSs k b body = true := by
  unfold ckS at h
  split at h <;> first | (exact absurd h Bool.false_ne_true) | skip
  all_goals try (rename_i he; cases he; done)
  rename_i he
  cases he
  simp only [Bool.and_eq_true] at h
  exact ⟨_, _, _, _, rfl, h.1.1.1, h.1.1.2, h.2⟩
theorem sndS_for_t_val_c_b (G : Gd T C k X W) {t : Tg} {c : CE} {b : CSs} (Hb : ∀ sts, ckSs k b sts = true → PSs X sts (tSs T C Wf W b)) : ∀ st : Stmt, ckS k (.for t (.val c) b) st = true → PS X st (tS T C Wf W (.for t (.val c) b)) := by
  intro st h
  obtain ⟨tg, e, body, p, rfl, h1, h2, h3⟩ := inv_for3 h
  obtain ⟨gt, pg, ok⟩ := pg_tg G h1
  exact ss_val G.K G.pass G.calm pg ok (sndE G c e h2).pe (Hb body h3) (ck_fold h2)
theorem sndS_whl_c_b (G : Gd T C k X W) {c : CE} {b : CSs} (Hb : ∀ sts, ckSs k b sts = true → PSs X sts (tSs T C Wf W b)) : ∀ st : Stmt, ckS k (.whl c b) st = true → PS X st (tS T C Wf W (.whl c b)) := by
  intro st h
  cases st <;> try (simp [ckS] at h; done)
  rename_i e body els p
  cases els <;> try (simp [ckS] at h; done)
  simp only [ckS, Bool.and_eq_true, Bool.not_eq_true'] at h
  exact ss_while G.pass ((sndE G c e h.1.1).pt h.1.2) (Hb body h.2)
mutual
theorem sndS (G : Gd T C k X W) : ∀ (c : CS) (st : Stmt), ckS k c st = true → PS X st (tS T C Wf W c)
  | .pass, st, h => sndS_pass G st h
  | .brk, st, h => sndS_brk G st h
  | .cont, st, h => sndS_cont G st h
  | .ret c, st, h => sndS_ret_c G st h
  | .retN, st, h => sndS_retN G st h
  | .expr c, st, h => sndS_expr_c G st h
  | .app i c, st, h => sndS_app_i_c G st h
  | .asg (.name i) c, st, h => sndS_asg_name_i_c G st h
  | .asg (.tup is) c, st, h => sndS_asg_tup_is_c G st h
  | .par i j a b, st, h => sndS_par_i_j_a_b G st h
  | .aug i op c, st, h => sndS_aug_i_op_c G st h
  | .setI i ix e, st, h => sndS_setI_i_ix_e G st h
  | .ifs c a b, st, h => sndS_ifs_c_a_b G (sndSs G a) (sndSs G b) st h
  | .for t (.range1 c) b, st, h => sndS_for_t_range1_c_b G (sndSs G b) st h
  | .for t (.range2 c d) b, st, h => sndS_for_t_range2_c_d_b G st h
  | .for t (.val c) b, st, h => sndS_for_t_val_c_b G (sndSs G b) st h
  | .whl c b, st, h => sndS_whl_c_b G (sndSs G b) st h
theorem sndSs (G : Gd T C k X W) : ∀ (cs : CSs) (sts : List Stmt), ckSs k cs sts = true → PSs X sts (tSs T C Wf W cs)
  | .nil, sts, h => by
    cases sts with
    | nil => exact sss_nil
    | cons _ _ => simp [ckSs] at h
  | .cons c cs, sts, h => by
    cases sts with
    | nil => simp [ckSs] at h
    | cons s ss =>
      simp only [ckSs, Bool.and_eq_true] at h
      exact sss_cons (sndS G c s h.1) (sndSs G cs ss h.2)
end
end

/-! ### the defs -/
/-- the def f, named x, stands at fa as fd; the checker tells its text -/
def DefAt (Tbl : Nat → Option Fd) (nm : Nat → Option PySem.Str) (blt : List PySem.Str) (gc : Bool) (K : PySem.W.Frag) (mg : PySem.Str → Option Value) (f : Nat) (x : PySem.Str) (fa : Addr) (fd : FuncData) (ps : List PySem.Str) : Prop :=
  ∃ (st : Stmt) (N : List PySem.Str) (body : CSs), mg x = some (.ref fa) ∧ Fun K x x st fa fd ∧ FnScope N ps (defScope st) ∧ (∀ us : List Value, us.length = ps.length → bindArgs fd ⟨us, []⟩ = pure (ps.zip us)) ∧
    Tbl f = some ⟨ps.length, N.length, body⟩ ∧ ckSs ⟨N, defScope st, nm, blt, gc⟩ body (defBody st) = true
/-- what the text's top has left of the defs, and what the checker says of them -/
structure Top (T : Tb) (Tbl : Nat → Option Fd) (nm : Nat → Option PySem.Str) (blt : List PySem.Str) (gc : Bool) (K : PySem.W.Frag) (mg : PySem.Str → Option Value) : Prop where
  hK : K = T.K
  hblt : ∀ x, blt.contains x = true → mg x = none
  hgcd : gc = true → mg "gcd" = some (.builtin "math.gcd")
  defs : ∀ f x, nm f = some x → ∃ fa fd ps, DefAt Tbl nm blt gc K mg f x fa fd ps
section
variable {T : Tb} {Tbl : Nat → Option Fd} {nm : Nat → Option PySem.Str} {blt : List PySem.Str} {gc : Bool} {P : Program} {w : World} {K : PySem.W.Frag} {mg : PySem.Str → Option Value} {base : Heap} {Wf : Nat}
/-- at the end of a body: what the caller sees -/
def Bs.ends (b b' : Bs) : Bs := { b' with H0 := b.H0, so0 := b.so0, own := [] }
def Bs.entry (b : Bs) : Bs := { b with H0 := b.H, so0 := b.sown }
theorem ends_go {b b' : Bs} {s : S} {σ : St} {o : List Addr} (g : GoS b.entry b' o) (A : At T b' s σ) : Go b (b.ends b') o where
  adv := by
    have h0 : b'.H0 = b.H := g.h0
    have so : b'.so0 = b.sown := g.so
    refine ⟨fun a u h n => A.same a u (by rw [h0]; exact h) (by rw [so]; exact n), fun a u h => A.there a u (by rw [h0]; exact h), fun a h => A.nt a (by rw [h0]; exact h), fun a m => ?_, fun a m => ?_⟩
    · rcases List.mem_append.mp m with m | m
      · exact .inr (g.new a m)
      · exact absurd m List.not_mem_nil
    · rcases A.snew a m with z | z
      · exact .inl (by rw [← so]; exact z)
      · exact .inr (by rw [← h0]; exact z)
  pre := g.pre
  h0 := rfl
  so := rfl
  nd := g.nd
  no := g.no
  ox := g.ox
theorem ends_phi {b b' : Bs} : Same b'.Φ (b.ends b').Φ := hid_less fun a z => z.imp id fun z => List.mem_append_right _ ((List.mem_append.mp z).elim (fun q => absurd q List.not_mem_nil) id)
theorem ends_at {b b' : Bs} {s : S} {σ : St} (A : At T b' s σ) : AtC T (b.ends b') s.sto :=
  ⟨A.sto.mono ends_phi (List.prefix_refl _) fun _ _ _ q => q, (List.nodup_append.mp A.nd).2.1, fun a m => A.ox a (List.mem_append_right _ m), A.oxH, rfl⟩
theorem body_end {b : Bs} {fl : Fl} {Q : VK} {E : XK} (h : PostC T b fl.call Q E) : PostS T b.entry fl { nx := fun _ H' => Q .non H', rt := Q } (fun cls d _ H => E cls d H) := by
  cases fl with
  | next s' => exact fun σ' b' g A => h .non (b.ends b') [] (ends_go g A) (ends_at A) (.sc rfl .non)
  | brk s' => exact h.elim
  | cont s' => exact h.elim
  | ret k d sto =>
    intro v σ' b' o s' e g A r
    subst e
    exact h v (b.ends b') o (ends_go g A) (ends_at A) (r.mono ends_phi (List.prefix_refl _) fun _ _ _ q => q)
  | exc x s' => exact fun σ' c d b' g A r => h c d (b.ends b') (ends_go g A) (ends_at A) (r.mono ends_phi (List.prefix_refl _))
  | err => exact h
theorem entry_at {b : Bs} {sto : Sto} {ds : List BT.D} {vs : List V} (B : AtC T b sto) (l : RpL T b.ρ b.Φ ds vs) (n : Nat) : At T b.entry { env := (ds.map fun d => some (0, d)) ++ List.replicate n none, sto := sto } (vs.map some ++ List.replicate n none) := by
  have e : b.own = [] := B.own
  refine ⟨fun _ _ h _ => h, fun _ u h => ⟨u, h⟩, fun _ h => h, ?_, B.sto, ?_, fun a m => ?_, fun a m => .inl m, fun a m => ?_, B.oxH⟩
  · show RpE T b.ρ b.Φ b.H _ _ b.own
    rw [e]
    exact RpE.entry n l
  · show (b.own ++ b.sown).Nodup
    rw [e]; exact B.nd
  · have m : a ∈ b.own := m
    rw [e] at m; simp at m
  · have m : a ∈ b.own ++ b.sown := m
    rw [e] at m
    exact B.ox a m
theorem RpL_len {ρ : List Addr} {Φ : Hp} {ds : List BT.D} {vs : List V} (l : RpL T ρ Φ ds vs) : ds.length = vs.length := l.len
/-- every def keeps its promise, n deep -/
theorem all_ok (H : Top T Tbl nm blt gc K mg) : ∀ (n f : Nat) (x : PySem.Str) (fa : Addr) (fd : FuncData) (ps : List PySem.Str), DefAt Tbl nm blt gc K mg f x fa fd ps → FnOk P w K mg base (L2.CX P w) n fa fd ps (spC T (callF Tbl Wf n f))
  | 0, f, x, fa, fd, ps, _ => ⟨fun vs H Q E ⟨b, ds, sto, _, _, _, h⟩ => h.elim, fun A outer s H args us vs Q E hr e0 hb r ⟨b, ds, sto, _, _, _, h⟩ => h.elim⟩
  | n + 1, f, x, fa, fd, ps, ⟨st, N, body, h1, F, S, hb, ht, hc⟩ => by
    have hpl : ps.length ≤ N.length := by
      have := congrArg List.length S.pre
      rw [List.length_take] at this
      omega
    have hcall : ∀ {ds : List BT.D} {sto : Sto}, callF Tbl Wf (n + 1) f ds sto = if ds.length = ps.length then
        (evalSs (callF Tbl Wf n) Wf body { env := (ds.map fun d => some (0, d)) ++ List.replicate (N.length - ps.length) none, sto := sto }).call else .err := fun {ds sto} => by
      show (match Tbl f with | none => CR.err | some fd => _) = _
      rw [ht]
      simp only [hpl, and_true]
    refine F.okX S (fun vs H Q E ⟨b, ds, sto, _, _, l, h⟩ => ?_) (fun cdv A outer s Hh vs Q E hr ⟨b, ds, sto, eH, B, l, h⟩ => ?_)
    · rw [hcall] at h
      by_cases hl : ds.length = ps.length
      · rw [← l.len]; exact hl
      · rw [if_neg hl] at h; exact h.elim
    · rw [hcall] at h
      by_cases hl : ds.length = ps.length
      · rw [if_pos hl] at h
        have G : Gd T (callF Tbl Wf n) ⟨N, defScope st, nm, blt, gc⟩ (cxOf (L2.CX P w) P w K mg base N x (defScope st) fa cdv A outer s Hh E) (fun cls d _ H => E cls d H) :=
          ⟨H.hK, rfl, by have := hr.un; show (A.deeper (envOfC x (defScope st) s.heap.objs.size fa cdv)).units + 200 < cLine; omega, takes_of rfl rfl rfl rfl, rfl, rfl, S.kind, S.nd, fun _ => rfl, passes_of rfl, H.hblt, H.hgcd, fun f' x' hx' => by
            obtain ⟨fa', fd', ps', d'⟩ := H.defs f' x' hx'
            obtain ⟨st', N', body', m1, F', S', b1, _, _⟩ := id d'
            exact ⟨fa', fd', ps', n, all_ok H n f' x' fa' fd' ps' d', hr, m1, F'.kp, .all b1⟩⟩
        refine ⟨tSs T (callF Tbl Wf n) Wf (fun cls d _ H => E cls d H) body, sndSs G body _ hc, b.entry, _, eH, ?_, body_end h⟩
        have e := entry_at B l (N.length - ps.length)
        have hv : L2.start N vs = vs.map some ++ List.replicate (N.length - ps.length) none := by
          unfold L2.start
          rw [← l.len, hl]
        rw [hv]
        exact e
      · rw [if_neg hl] at h; exact h.elim
/-- the script, as the law takes it -/
theorem law_sp {n f : Nat} (T : Tb) (h : ∀ ns : List Int, ns.length ≤ 63 → ∃ k sto, callF Tbl Wf n f [.lst (ns.map .int)] [] = .ok k (.bl true) sto) (H : Hp) (a : Addr) (ns : List Int) (hl : ns.length ≤ 63) (hS : SqL T.K H a (ns.map V.int)) :
    spC T (callF Tbl Wf n f) [.ref a] H (fun v _ => v = .bl true) fun _ _ _ => False := by
  let b : Bs := { OX := fun _ => False, H0 := H, so0 := [], ρ := [], H := H, own := [], sown := [] }
  have hΦ : Same H b.Φ := fun a u q => by
    unfold Bs.Φ
    rw [hid_at]
    · exact q
    · rintro (z | z)
      · exact z
      · exact absurd z List.not_mem_nil
  have allI : ∀ ns : List Int, RpL T b.ρ b.Φ (ns.map .int) (ns.map V.int) := fun ns => by
    induction ns with
    | nil => exact .nil
    | cons i ns ih => exact .cons (.int i) ih
  refine ⟨b, [.lst (ns.map .int)], [], rfl, ⟨.nil, List.nodup_nil, fun a m => absurd m List.not_mem_nil, fun a z => z.elim, rfl⟩, .cons (.lst (same_l hΦ hS) (allI ns)) .nil, ?_⟩
  obtain ⟨k, sto, e⟩ := h ns hl
  rw [e]
  exact fun v b' o g B r => (r.scal rfl).2.bl'
end
/-- the law's function, for walk_of -/
theorem law_fn {T : Tb} {Tbl : Nat → Option Fd} {nm : Nat → Option PySem.Str} {blt : List PySem.Str} {gc : Bool} {K : PySem.W.Frag} {mg : PySem.Str → Option Value} (P : Program) (w : World) (n Wf f : Nat) {x y : PySem.Str} {fa fa' : Addr} {fd : FuncData} (H : Top T Tbl nm blt gc K mg) (h : DefAt Tbl nm blt gc K mg f x fa' fd [y]) (hfa : mg x = some (.ref fa)) :
    ∃ fd : FuncData, (∀ (s : Shared) (u : Value), BindsTo s fd ⟨[u], []⟩ [(y, u)]) ∧ ∀ base : Heap, K.In base → base.Ns mainGlobals mg → FnOk P w K mg base (L2.CX P w) n fa fd [y] (spC T (callF Tbl Wf n f)) := by
  obtain ⟨st, N, body, h1, F, S, hb, ht, hc⟩ := id h
  have e : some (Value.ref fa') = some (.ref fa) := h1.symm.trans hfa
  cases e
  exact ⟨fd, fun s u => .of_eq (hb [u] rfl), fun base _ _ => all_ok H n f x fa fd [y] h⟩
/-- the goal that k_head leaves -/
theorem walk_bt {mk : PySem.W.Frag → Tb} (hmk : ∀ K, (mk K).K = K) {Tbl : Nat → Option Fd} {n Wf f : Nat} {y : PySem.Str} {l : PySem.W.OpenLaw} {q : Program} {loose : List PySem.Str} {XP : (PySem.Str → Option Value) → Heap → Prop} {YP : World → Heap → Prop} {d : DefRec} {K : Params → PySem.W.Frag} (hn : l.most = some 63) (hdf : d.params.defaults = [])
    (hr : Room n callerA) (main : ∀ ns : List Int, ns.length ≤ 63 → ∃ k sto, callF Tbl Wf n f [.lst (ns.map .int)] [] = .ok k (.bl true) sto)
    (hY : ∀ (w : World) (h : Heap), YP w h → (K w.params).In h)
    (F : ∀ (w : World) (mg : PySem.Str → Option Value) (fa : Addr) (h : Heap), (K w.params).In h → h.Ns mainGlobals mg → mg d.name = some (.ref fa) →
      ∃ fd : FuncData, (∀ (s : Shared) (u : Value), BindsTo s fd ⟨[u], []⟩ [(y, u)]) ∧ ∀ base : Heap, (K w.params).In base → base.Ns mainGlobals mg → FnOk l.prog w (K w.params) mg base (L2.CX l.prog w) n fa fd [y] (spC (mk (K w.params)) (callF Tbl Wf n f))) :
    PySem.W.WalkO q loose XP YP l.row.toRowW d [] (fun f vs => PySem.call f vs) :=
  L2.walk_of (n := 63) (k := n) (x := y) (CX := fun w => L2.CX l.prog w) (sp := fun w => spC (mk (K w.params)) (callF Tbl Wf n f)) hn (by decide) hdf hr hY F
    (fun w H a ns hl _ hS => law_sp (mk (K w.params)) main H a ns hl (by rw [hmk]; exact hS)) fun w H s e s' z => by
      obtain ⟨_, _, _, _, _, _, _, _, _, _, _, _, z⟩ := z
      exact z
end BT
end

section
/-! BtMath: plain lemmas about the evaluator: calls, loops, the law's own rows of numbers. -/
namespace BT
set_option autoImplicit false
theorem callF_eq {T : Nat → Option Fd} {W n f : Nat} {fd : Fd} {ds : List D} {sto : Sto} (h : T f = some fd) (hl : ds.length = fd.np) (hn : fd.np ≤ fd.ns) :
    callF T W (n + 1) f ds sto = (evalSs (callF T W n) W fd.body { env := (ds.map fun d => some (0, d)) ++ List.replicate (fd.ns - fd.np) none, sto := sto }).call := by
  show (match T f with | none => CR.err | some fd => _) = _
  rw [h]
  simp only [hl, hn, and_self, if_true]
theorem forL_nil (step : D → S → Fl) (s : S) : forL step [] s = .next s := rfl
theorem forL_next {step : D → S → Fl} {d : D} {ds : List D} {s s' : S} (h : step d s = .next s') : forL step (d :: ds) s = forL step ds s' := by
  show (match step d s with | .next s' => forL step ds s' | .cont s' => forL step ds s' | .brk s' => .next s' | r => r) = _
  rw [h]
theorem forL_cont {step : D → S → Fl} {d : D} {ds : List D} {s s' : S} (h : step d s = .cont s') : forL step (d :: ds) s = forL step ds s' := by
  show (match step d s with | .next s' => forL step ds s' | .cont s' => forL step ds s' | .brk s' => .next s' | r => r) = _
  rw [h]
theorem forL_brk {step : D → S → Fl} {d : D} {ds : List D} {s s' : S} (h : step d s = .brk s') : forL step (d :: ds) s = .next s' := by
  show (match step d s with | .next s' => forL step ds s' | .cont s' => forL step ds s' | .brk s' => .next s' | r => r) = _
  rw [h]
theorem forL_ret {step : D → S → Fl} {d : D} {ds : List D} {s : S} {k : Nat} {v : D} {t : Sto} (h : step d s = .ret k v t) : forL step (d :: ds) s = .ret k v t := by
  show (match step d s with | .next s' => forL step ds s' | .cont s' => forL step ds s' | .brk s' => .next s' | r => r) = _
  rw [h]
/-- the ints of a list -/
abbrev il (ns : List Int) : D := .lst (ns.map .int)
theorem ixN_nat {n j : Nat} (h : j < n) : ixN n (j : Int) = some j := by
  unfold ixN
  rw [if_pos (by omega), if_pos (by omega)]
  simp
theorem idx_ints {ns : List Int} {j : Nat} {x : Int} (h : ns[j]? = some x) : idxD (il ns) (.int (j : Int)) = some (.int x) := by
  have hj : j < ns.length := (List.getElem?_eq_some_iff.mp h).1
  simp only [idxD, List.length_map]
  rw [ixN_nat hj]
  simp [h]
theorem bits_l {i j : Int} (h : i.natAbs < 18446744073709551616) : bitsOk i j = true := by unfold bitsOk; simp [h]
theorem bits_r {i j : Int} (h : j.natAbs < 18446744073709551616) : bitsOk i j = true := by unfold bitsOk; simp [h]

/-! ### _law_row(_law_script, _law_k, _law_count) -/
def brow : CSs :=
    .cons (.asg (.name 3) (.int 0)) <|
    .cons (.ifs (.cmp .lt (.bor 1) (.bi .len (.cons (.bor 0) .nil))) (.cons (.asg (.name 3) (.bi .int (.cons (.idx (.bor 0) (.bor 1)) .nil))) <|
      .nil) (.nil)) <|
    .cons (.asg (.name 4) (.lst 1 .nil)) <|
    .cons (.ifs (.cmp .ge (.bor 3) (.bin .pow (.int 10) (.int 18))) (.cons (.for (.name 6) (.range1 (.bor 2)) (.cons (.app 4 (.bin .mod (.bi .int (.cons (.bor 3) .nil)) (.int 1000))) <|
        .cons (.asg (.name 3) (.bin .fdiv (.bor 3) (.int 1000))) <|
        .nil)) <|
      .cons (.ret (.mv 4)) <|
      .nil) (.nil)) <|
    .cons (.asg (.name 5) (.bin .mod (.bi .int (.cons (.bin .add (.bin .add (.bin .mul (.bor 3) (.int 48271)) (.bin .mul (.bor 1) (.int 69621))) (.int 11)) .nil)) (.int 2147483647))) <|
    .cons (.for (.name 6) (.range1 (.bor 2)) (.cons (.asg (.name 5) (.bin .mod (.bi .int (.cons (.bin .add (.bin .add (.bin .mul (.bor 5) (.int 16807)) (.bin .mul (.bor 6) (.int 7919))) (.int 101)) .nil)) (.int 2147483647))) <|
      .cons (.app 4 (.bin .mod (.bin .fdiv (.bor 5) (.int 65536)) (.int 1000))) <|
      .nil)) <|
    .cons (.ret (.mv 4)) <|
    .nil
section
variable {T : Nat → Option Fd} {W n f : Nat} {sto : Sto}
theorem log_lt {j : Int} {k : Nat} (h : j.natAbs < 2 ^ k) (hk : k ≤ 9000 := by decide) (h1 : 0 < k := by decide) : j.natAbs.log2 < 9000 := by
  by_cases h0 : j.natAbs = 0
  · rw [h0]; decide
  · have := (Nat.log2_lt h0).mpr h
    omega
theorem binop_add (i j : Int) : binop .add (.int i) (.int j) = some (.int (i + j)) := rfl
theorem binop_sub (i j : Int) : binop .sub (.int i) (.int j) = some (.int (i - j)) := rfl
theorem binop_mul {i j : Int} (h : bitsOk i j = true) : binop .mul (.int i) (.int j) = some (.int (i * j)) := by simp [binop, h]
theorem binop_fdiv {i j : Int} (h : 0 < j) (h2 : j.natAbs.log2 < 9000) : binop .fdiv (.int i) (.int j) = some (.int (i / j)) := by simp [binop, h, h2]
theorem binop_mod {i j : Int} (h : 0 < j) : binop .mod (.int i) (.int j) = some (.int (i % j)) := by simp [binop, h]
theorem binop_pow {i j : Int} (h : 0 ≤ j ∧ j ≤ 1000 ∧ i.natAbs < 18446744073709551616) : binop .pow (.int i) (.int j) = some (.int (i ^ j.toNat)) := by simp only [binop, h, and_self, if_true]
theorem pow18 : binop .pow (.int 10) (.int 18) = some (.int 1000000000000000000) := by
  have h : binop .pow (.int 10) (.int 18) = (if (0:Int) ≤ 18 ∧ (18:Int) ≤ 1000 ∧ (10:Int).natAbs < 18446744073709551616 then some (.int (10 ^ (18:Int).toNat)) else none) := rfl
  rw [h, if_pos (by decide)]
  rfl
theorem pow60 : binop .pow (.int 10) (.int 60) = some (.int 1000000000000000000000000000000000000000000000000000000000000) := by
  have h : binop .pow (.int 10) (.int 60) = (if (0:Int) ≤ 60 ∧ (60:Int) ≤ 1000 ∧ (10:Int).natAbs < 18446744073709551616 then some (.int (10 ^ (60:Int).toNat)) else none) := rfl
  rw [h, if_pos (by decide)]
  rfl
theorem log1000 : (Int.natAbs 1000).log2 < 9000 := log_lt (k := 10) (by decide)
theorem log65536 : (Int.natAbs 65536).log2 < 9000 := log_lt (k := 17) (by decide)
theorem fdiv1000 (i : Int) : binop .fdiv (.int i) (.int 1000) = some (.int (i / 1000)) := binop_fdiv (by decide) log1000
theorem fdiv65536 (i : Int) : binop .fdiv (.int i) (.int 65536) = some (.int (i / 65536)) := binop_fdiv (by decide) log65536
theorem lim1000 {n : Nat} (h : n ≤ 1000) : n < LIM := by unfold LIM; omega
theorem ev_next {C : Nat → List D → Sto → CR} {W : Nat} {a : CS} {r : CSs} {s s' : S} (h : evalS C W a s = .next s') : evalSs C W (.cons a r) s = evalSs C W r s' := by
  simp [evalSs, h]
theorem ev_ret {C : Nat → List D → Sto → CR} {W : Nat} {a : CS} {r : CSs} {s : S} {k : Nat} {d : D} {t : Sto} (h : evalS C W a s = .ret k d t) : evalSs C W (.cons a r) s = .ret k d t := by
  simp [evalSs, h]
theorem row_loop1 (C : Nat → List D → Sto → CR) (x0 x1 x2 x5 : Option (Nat × D)) : ∀ (items : List D) (c : Int) (acc : List Int) (x6 : Option (Nat × D)), acc.length + items.length ≤ 1000 →
    ∃ (rs : List Int) (c' : Int) (y6 : Option (Nat × D)), rs.length = items.length ∧ (∀ r ∈ rs, 0 ≤ r ∧ r < 1000) ∧
      forL (fun d s2 => match assign (.name 6) 0 d s2 with
        | some s3 => evalSs C W (.cons (.app 4 (.bin .mod (.bi .int (.cons (.bor 3) .nil)) (.int 1000))) <| .cons (.asg (.name 3) (.bin .fdiv (.bor 3) (.int 1000))) <| .nil) s3
        | none => .err) items { env := [x0, x1, x2, some (0, .int c), some (1, il acc), x5, x6], sto := sto } =
      .next { env := [x0, x1, x2, some (0, .int c'), some (1, il (acc ++ rs)), x5, y6], sto := sto } := by
  intro items
  induction items with
  | nil => exact fun c acc x6 _ => ⟨[], c, x6, rfl, fun r m => by simp at m, by simp [forL_nil]⟩
  | cons d ds ih =>
    intro c acc x6 hl
    rw [List.length_cons] at hl
    obtain ⟨rs, c', y6, h1, h2, h3⟩ := ih (c / 1000) (acc ++ [c % 1000]) (some (0, d)) (by rw [List.length_append]; simp; omega)
    refine ⟨c % 1000 :: rs, c', y6, by simp [h1], fun r m => ?_, ?_⟩
    · rcases List.mem_cons.mp m with rfl | m
      · exact ⟨Int.emod_nonneg _ (by decide), Int.emod_lt_of_pos _ (by decide)⟩
      · exact h2 r m
    · have e : acc ++ c % 1000 :: rs = (acc ++ [c % 1000]) ++ rs := by simp
      rw [e, ← h3]
      refine forL_next ?_
      have hlim : acc.length < LIM := lim1000 (by omega)
      simp [assign, evalSs, evalS, evalE, evalEs, Out.bind, Out.fl, lift, binop_mod, fdiv1000, biD, EV.d, optFl, EV.fit, BT.fit, scal, hlim]
theorem row_loop2 (C : Nat → List D → Sto → CR) (x0 x1 x2 x3 : Option (Nat × D)) : ∀ (items : List D) (c : Int) (acc : List Int) (x6 : Option (Nat × D)), acc.length + items.length ≤ 1000 → (∀ d ∈ items, ∃ i : Int, d = .int i) →
    ∃ (rs : List Int) (y5 y6 : Option (Nat × D)), rs.length = items.length ∧ (∀ r ∈ rs, 0 ≤ r ∧ r < 1000) ∧
      forL (fun d s2 => match assign (.name 6) 0 d s2 with
        | some s3 => evalSs C W (.cons (.asg (.name 5) (.bin .mod (.bi .int (.cons (.bin .add (.bin .add (.bin .mul (.bor 5) (.int 16807)) (.bin .mul (.bor 6) (.int 7919))) (.int 101)) .nil)) (.int 2147483647))) <|
      .cons (.app 4 (.bin .mod (.bin .fdiv (.bor 5) (.int 65536)) (.int 1000))) <|
      .nil) s3
        | none => .err) items { env := [x0, x1, x2, x3, some (1, il acc), some (0, .int c), x6], sto := sto } =
      .next { env := [x0, x1, x2, x3, some (1, il (acc ++ rs)), y5, y6], sto := sto } := by
  intro items
  induction items with
  | nil => exact fun c acc x6 _ _ => ⟨[], some (0, .int c), x6, rfl, fun r m => by simp at m, by simp [forL_nil]⟩
  | cons d ds ih =>
    intro c acc x6 hl hi
    rw [List.length_cons] at hl
    obtain ⟨j, rfl⟩ := hi d (by simp)
    obtain ⟨rs, c', y6, h1, h2, h3⟩ := ih ((c * 16807 + j * 7919 + 101) % 2147483647) (acc ++ [((c * 16807 + j * 7919 + 101) % 2147483647) / 65536 % 1000]) (some (0, .int j)) (by rw [List.length_append]; simp; omega) (fun d m => hi d (List.mem_cons_of_mem _ m))
    refine ⟨((c * 16807 + j * 7919 + 101) % 2147483647) / 65536 % 1000 :: rs, c', y6, by simp [h1], fun r m => ?_, ?_⟩
    · rcases List.mem_cons.mp m with rfl | m
      · exact ⟨Int.emod_nonneg _ (by decide), Int.emod_lt_of_pos _ (by decide)⟩
      · exact h2 r m
    · have e : ∀ z : Int, acc ++ z :: rs = (acc ++ [z]) ++ rs := by simp
      rw [e, ← h3]
      refine forL_next ?_
      have hlim : acc.length < LIM := lim1000 (by omega)
      have m1 : ∀ c : Int, bitsOk c 16807 = true := fun c => bits_r (by decide)
      have m2 : ∀ c : Int, bitsOk c 7919 = true := fun c => bits_r (by decide)
      simp [assign, evalSs, evalS, evalE, evalEs, Out.bind, Out.fl, lift, binop_mod, binop_mul, binop_add, m1, m2, fdiv65536, biD, EV.d, optFl, EV.fit, BT.fit, scal, hlim]
theorem evalI_range1 {C : Nat → List D → Sto → CR} {e : CE} {s s1 : S} {x : EV} {n : Int} (h : evalE C e s = .ok x s1) (hx : x.d = .int n) (h1 : n < 4611686018427387904) (h2 : -4611686018427387904 ≤ n) :
    evalI C (.range1 e) s = .ok ((List.range n.toNat).map fun (i : Nat) => .int (i : Int)) s1 := by
  simp only [evalI, h, Out.bind, hx]
  exact if_pos ⟨h1, h2⟩
/-- the state of `_law_row` -/
abbrev rs0 (a b c x3 x4 x5 x6 : Option (Nat × D)) (sto : Sto) : S := ⟨[a, b, c, x3, x4, x5, x6], sto⟩
abbrev rng (c : Nat) : List D := (List.range c).map fun (i : Nat) => .int (i : Int)
variable {a b : Option (Nat × D)}
theorem row_rng (C : Nat → List D → Sto → CR) {c : Nat} {x3 x4 x5 x6 : Option (Nat × D)} (hc : c ≤ 900) : evalI C (.range1 (.bor 2)) (rs0 a b (some (0, .int c)) x3 x4 x5 x6 sto) = .ok (rng c) (rs0 a b (some (0, .int c)) x3 x4 x5 x6 sto) := by
  refine evalI_range1 (x := .bor 0 (.int c)) (n := c) ?_ rfl (by omega) (by omega)
  simp [evalE]
theorem row_cell (C : Nat → List D → Sto → CR) {ns : List Int} {k : Nat} {x2 x4 x5 x6 : Option (Nat × D)} : ∃ v : Int, evalS C W (.ifs (.cmp .lt (.bor 1) (.bi .len (.cons (.bor 0) .nil))) (.cons (.asg (.name 3) (.bi .int (.cons (.idx (.bor 0) (.bor 1)) .nil))) <| .nil) (.nil)) (rs0 (some (0, il ns)) (some (0, .int k)) x2 (some (0, .int 0)) x4 x5 x6 sto) =
      .next (rs0 (some (0, il ns)) (some (0, .int k)) x2 (some (0, .int v)) x4 x5 x6 sto) := by
  by_cases h : k < ns.length
  · obtain ⟨x, hx⟩ : ∃ x, ns[k]? = some x := ⟨ns[k], by simp [h]⟩
    have hi := idx_ints hx
    refine ⟨x, ?_⟩
    simp [assign, evalSs, evalS, evalE, evalEs, evalT, Out.bind, Out.fl, liftB, lift, biD, EV.d, optFl, EV.fit, BT.fit, scal, hi, cmpop, truth, h]
  · refine ⟨0, ?_⟩
    simp [assign, evalSs, evalS, evalE, evalEs, evalT, Out.bind, Out.fl, liftB, lift, biD, EV.d, optFl, EV.fit, BT.fit, scal, cmpop, truth, h]
theorem row_test (C : Nat → List D → Sto → CR) {v : Int} {c x4 x5 x6 : Option (Nat × D)} : evalT C (.cmp .ge (.bor 3) (.bin .pow (.int 10) (.int 18))) (rs0 a b c (some (0, .int v)) x4 x5 x6 sto) = .ok (decide (1000000000000000000 ≤ v)) (rs0 a b c (some (0, .int v)) x4 x5 x6 sto) := by
  simp [evalT, evalE, Out.bind, lift, liftB, pow18, EV.d, cmpop, truth]
theorem row_if1 (C : Nat → List D → Sto → CR) {v : Int} {c : Nat} (hc : c ≤ 900) (h : 1000000000000000000 ≤ v) : ∃ rs : List Int, rs.length = c ∧ (∀ r ∈ rs, 0 ≤ r ∧ r < 1000) ∧ evalS C W (.ifs (.cmp .ge (.bor 3) (.bin .pow (.int 10) (.int 18))) (.cons (.for (.name 6) (.range1 (.bor 2)) (.cons (.app 4 (.bin .mod (.bi .int (.cons (.bor 3) .nil)) (.int 1000))) <|
        .cons (.asg (.name 3) (.bin .fdiv (.bor 3) (.int 1000))) <|
        .nil)) <|
      .cons (.ret (.mv 4)) <|
      .nil) (.nil)) (rs0 a b (some (0, .int c)) (some (0, .int v)) (some (1, il [])) none none sto) = .ret 1 (il rs) sto := by
  obtain ⟨rs, c', y6, h1, h2, h3⟩ := row_loop1 (sto := sto) (W := W) C a b (some (0, .int c)) none (rng c) v [] none (by simp; omega)
  refine ⟨rs, by simpa using h1, h2, ?_⟩
  have hf : evalS C W (.for (.name 6) (.range1 (.bor 2)) (.cons (.app 4 (.bin .mod (.bi .int (.cons (.bor 3) .nil)) (.int 1000))) <|
        .cons (.asg (.name 3) (.bin .fdiv (.bor 3) (.int 1000))) <|
        .nil)) (rs0 a b (some (0, .int c)) (some (0, .int v)) (some (1, il [])) none none sto) = .next (rs0 a b (some (0, .int c)) (some (0, .int c')) (some (1, il rs)) none y6 sto) := by
    rw [List.nil_append] at h3
    rw [evalS, row_rng C hc]
    exact h3
  rw [evalS, row_test C]
  simp only [Out.fl, h, decide_true, if_true]
  rw [ev_next hf, ev_ret (k := 1) (d := il rs) (t := sto) (by simp [evalS, evalE, Out.fl])]
theorem row_if2 (C : Nat → List D → Sto → CR) {v : Int} {c x4 x5 x6 : Option (Nat × D)} (h : ¬ 1000000000000000000 ≤ v) : evalS C W (.ifs (.cmp .ge (.bor 3) (.bin .pow (.int 10) (.int 18))) (.cons (.for (.name 6) (.range1 (.bor 2)) (.cons (.app 4 (.bin .mod (.bi .int (.cons (.bor 3) .nil)) (.int 1000))) <|
        .cons (.asg (.name 3) (.bin .fdiv (.bor 3) (.int 1000))) <|
        .nil)) <|
      .cons (.ret (.mv 4)) <|
      .nil) (.nil)) (rs0 a b c (some (0, .int v)) x4 x5 x6 sto) = .next (rs0 a b c (some (0, .int v)) x4 x5 x6 sto) := by
  rw [evalS, row_test C]
  simp only [Out.fl, h, decide_false]
  rfl
theorem row_seed (C : Nat → List D → Sto → CR) {v : Int} {k : Nat} {c x4 x5 x6 : Option (Nat × D)} : ∃ z : Int, evalS C W (.asg (.name 5) (.bin .mod (.bi .int (.cons (.bin .add (.bin .add (.bin .mul (.bor 3) (.int 48271)) (.bin .mul (.bor 1) (.int 69621))) (.int 11)) .nil)) (.int 2147483647))) (rs0 a (some (0, .int k)) c (some (0, .int v)) x4 x5 x6 sto) = .next (rs0 a (some (0, .int k)) c (some (0, .int v)) x4 (some (0, .int z)) x6 sto) := by
  have m1 : ∀ c : Int, bitsOk c 48271 = true := fun c => bits_r (by decide)
  have m2 : ∀ c : Int, bitsOk c 69621 = true := fun c => bits_r (by decide)
  refine ⟨(v * 48271 + k * 69621 + 11) % 2147483647, ?_⟩
  simp [assign, evalS, evalE, evalEs, Out.bind, Out.fl, lift, binop_mod, binop_mul, binop_add, m1, m2, biD, EV.d, optFl]
theorem row_for2 (C : Nat → List D → Sto → CR) {z : Int} {c : Nat} {x3 : Option (Nat × D)} (hc : c ≤ 900) : ∃ (rs : List Int) (y5 y6 : Option (Nat × D)), rs.length = c ∧ (∀ r ∈ rs, 0 ≤ r ∧ r < 1000) ∧ evalS C W (.for (.name 6) (.range1 (.bor 2)) (.cons (.asg (.name 5) (.bin .mod (.bi .int (.cons (.bin .add (.bin .add (.bin .mul (.bor 5) (.int 16807)) (.bin .mul (.bor 6) (.int 7919))) (.int 101)) .nil)) (.int 2147483647))) <|
      .cons (.app 4 (.bin .mod (.bin .fdiv (.bor 5) (.int 65536)) (.int 1000))) <|
      .nil)) (rs0 a b (some (0, .int c)) x3 (some (1, il [])) (some (0, .int z)) none sto) = .next (rs0 a b (some (0, .int c)) x3 (some (1, il rs)) y5 y6 sto) := by
  obtain ⟨rs, y5, y6, h1, h2, h3⟩ := row_loop2 (sto := sto) (W := W) C a b (some (0, .int c)) x3 (rng c) z [] none (by simp; omega) (fun d m => by
    obtain ⟨i, _, rfl⟩ := List.mem_map.mp m
    exact ⟨_, rfl⟩)
  refine ⟨rs, y5, y6, by simpa using h1, h2, ?_⟩
  rw [List.nil_append] at h3
  rw [evalS, row_rng C hc]
  exact h3
theorem row_ok (hT : T f = some ⟨3, 7, brow⟩) {ns : List Int} {k c : Nat} (hn : ns.length ≤ 63) (hc : c ≤ 900) :
    ∃ rs : List Int, rs.length = c ∧ (∀ r ∈ rs, 0 ≤ r ∧ r < 1000) ∧ callF T W (n + 1) f [il ns, .int k, .int c] sto = .ok 1 (il rs) sto := by
  have g1 : evalS (callF T W n) W (.asg (.name 3) (.int 0)) (rs0 (some (0, il ns)) (some (0, .int k)) (some (0, .int c)) none none none none sto) = .next (rs0 (some (0, il ns)) (some (0, .int k)) (some (0, .int c)) (some (0, .int 0)) none none none sto) := by
    simp [evalS, evalE, Out.fl, assign, optFl]
  obtain ⟨v, g2⟩ := row_cell (W := W) (sto := sto) (callF T W n) (ns := ns) (k := k) (x2 := some (0, .int c)) (x4 := none) (x5 := none) (x6 := none)
  have g3 : evalS (callF T W n) W (.asg (.name 4) (.lst 1 .nil)) (rs0 (some (0, il ns)) (some (0, .int k)) (some (0, .int c)) (some (0, .int v)) none none none sto) = .next (rs0 (some (0, il ns)) (some (0, .int k)) (some (0, .int c)) (some (0, .int v)) (some (1, il [])) none none sto) := by
    simp [evalS, evalE, evalEs, Out.fl, Out.bind, assign, optFl]
  by_cases hb : (1000000000000000000 : Int) ≤ v
  · obtain ⟨rs, h1, h2, h3⟩ := row_if1 (W := W) (sto := sto) (callF T W n) (a := some (0, il ns)) (b := some (0, .int k)) hc hb
    refine ⟨rs, h1, h2, ?_⟩
    rw [callF_eq hT rfl (by decide)]
    show (evalSs (callF T W n) W brow (rs0 (some (0, il ns)) (some (0, .int k)) (some (0, .int c)) none none none none sto)).call = _
    unfold brow
    rw [ev_next g1, ev_next g2, ev_next g3, ev_ret h3]
    rfl
  · obtain ⟨z, g5⟩ := row_seed (W := W) (sto := sto) (callF T W n) (a := some (0, il ns)) (k := k) (c := some (0, .int c)) (v := v) (x4 := some (1, il [])) (x5 := none) (x6 := none)
    obtain ⟨rs, y5, y6, h1, h2, g6⟩ := row_for2 (W := W) (sto := sto) (callF T W n) (a := some (0, il ns)) (b := some (0, .int k)) (x3 := some (0, .int v)) (z := z) hc
    refine ⟨rs, h1, h2, ?_⟩
    rw [callF_eq hT rfl (by decide)]
    show (evalSs (callF T W n) W brow (rs0 (some (0, il ns)) (some (0, .int k)) (some (0, .int c)) none none none none sto)).call = _
    unfold brow
    rw [ev_next g1, ev_next g2, ev_next g3, ev_next (row_if2 _ hb), ev_next g5, ev_next g6, ev_ret (k := 1) (d := il rs) (t := sto) (by simp [evalS, evalE, Out.fl])]
    rfl
end
end BT
end

section
namespace K05
open BT
set_option autoImplicit false
/-! ### the defs in the small language -/
/-- joined(one, other): slots 0 one, 1 other, 2 first, 3 second -/
def b0 : CSs :=
    .cons (.ifs (.cmp .eq (.bor 0) (.int 0)) (.cons (.ret (.mv 1)) <|
      .nil) (.nil)) <|
    .cons (.ifs (.cmp .eq (.bor 1) (.int 0)) (.cons (.ret (.mv 0)) <|
      .nil) (.nil)) <|
    .cons (.ifs (.and (.isi .tuple (.bor 0)) (.isi .tuple (.bor 1))) (.cons (.asg (.name 2) (.call 0 (.cons (.idx (.bor 0) (.int 0)) (.cons (.idx (.bor 1) (.int 0)) .nil)))) <|
      .cons (.asg (.name 3) (.call 0 (.cons (.idx (.bor 0) (.int 1)) (.cons (.idx (.bor 1) (.int 1)) .nil)))) <|
      .cons (.ifs (.or (.cmp .is (.bor 2) .non) (.cmp .is (.bor 3) .non)) (.cons (.ret .non) <|
        .nil) (.nil)) <|
      .cons (.ret (.tup 1 (.cons (.var 2) (.cons (.var 3) .nil)))) <|
      .nil) (.nil)) <|
    .cons (.ifs (.or (.isi .tuple (.bor 0)) (.isi .tuple (.bor 1))) (.cons (.ret .non) <|
      .nil) (.nil)) <|
    .cons (.ret (.bi .max2 (.cons (.bor 0) (.cons (.bor 1) .nil)))) <|
    .nil
/-- fits(kind, other): slots 0 kind, 1 other -/
def b1 : CSs :=
    .cons (.ret (.cmp .eq (.call 0 (.cons (.var 0) (.cons (.var 1) .nil))) (.bor 1))) <|
    .nil
/-- has(kind, value): slots 0 kind, 1 value -/
def b2 : CSs :=
    .cons (.ifs (.and (.isi .tuple (.bor 0)) (.isi .tuple (.bor 1))) (.cons (.ret (.and (.call 2 (.cons (.idx (.bor 0) (.int 0)) (.cons (.idx (.bor 1) (.int 0)) .nil))) (.call 2 (.cons (.idx (.bor 0) (.int 1)) (.cons (.idx (.bor 1) (.int 1)) .nil))))) <|
      .nil) (.nil)) <|
    .cons (.ifs (.or (.isi .tuple (.bor 0)) (.isi .tuple (.bor 1))) (.cons (.ret (.bl false)) <|
      .nil) (.nil)) <|
    .cons (.ret (.cmp .lt (.bor 1) (.bor 0))) <|
    .nil
/-- _law_row(_law_script, _law_k, _law_count): slots 0 _law_script, 1 _law_k, 2 _law_count, 3 _law_cell, 4 _law_row_here, 5 _law_seed, 6 _law_at -/
def b3 : CSs :=
    .cons (.asg (.name 3) (.int 0)) <|
    .cons (.ifs (.cmp .lt (.bor 1) (.bi .len (.cons (.bor 0) .nil))) (.cons (.asg (.name 3) (.bi .int (.cons (.idx (.bor 0) (.bor 1)) .nil))) <|
      .nil) (.nil)) <|
    .cons (.asg (.name 4) (.lst 1 .nil)) <|
    .cons (.ifs (.cmp .ge (.bor 3) (.bin .pow (.int 10) (.int 18))) (.cons (.for (.name 6) (.range1 (.bor 2)) (.cons (.app 4 (.bin .mod (.bi .int (.cons (.bor 3) .nil)) (.int 1000))) <|
        .cons (.asg (.name 3) (.bin .fdiv (.bor 3) (.int 1000))) <|
        .nil)) <|
      .cons (.ret (.mv 4)) <|
      .nil) (.nil)) <|
    .cons (.asg (.name 5) (.bin .mod (.bi .int (.cons (.bin .add (.bin .add (.bin .mul (.bor 3) (.int 48271)) (.bin .mul (.bor 1) (.int 69621))) (.int 11)) .nil)) (.int 2147483647))) <|
    .cons (.for (.name 6) (.range1 (.bor 2)) (.cons (.asg (.name 5) (.bin .mod (.bi .int (.cons (.bin .add (.bin .add (.bin .mul (.bor 5) (.int 16807)) (.bin .mul (.bor 6) (.int 7919))) (.int 101)) .nil)) (.int 2147483647))) <|
      .cons (.app 4 (.bin .mod (.bin .fdiv (.bor 5) (.int 65536)) (.int 1000))) <|
      .nil)) <|
    .cons (.ret (.mv 4)) <|
    .nil
/-- _law_equal(_law_told, _law_due): slots 0 _law_told, 1 _law_due, 2 _law_at -/
def b4 : CSs :=
    .cons (.ifs (.or (.isi .tuple (.bor 1)) (.isi .list (.bor 1))) (.cons (.ifs (.or (.cmp .ne (.isi .tuple (.bor 1)) (.isi .tuple (.bor 0))) (.cmp .ne (.isi .list (.bor 1)) (.isi .list (.bor 0)))) (.cons (.ret (.bl false)) <|
        .nil) (.nil)) <|
      .cons (.ifs (.cmp .ne (.bi .len (.cons (.bor 0) .nil)) (.bi .len (.cons (.bor 1) .nil))) (.cons (.ret (.bl false)) <|
        .nil) (.nil)) <|
      .cons (.for (.name 2) (.range1 (.bi .len (.cons (.bor 1) .nil))) (.cons (.ifs (.not (.call 4 (.cons (.idx (.bor 0) (.bor 2)) (.cons (.idx (.bor 1) (.bor 2)) .nil)))) (.cons (.ret (.bl false)) <|
          .nil) (.nil)) <|
        .nil)) <|
      .cons (.ret (.bl true)) <|
      .nil) (.nil)) <|
    .cons (.ifs (.or (.isi .bool (.bor 1)) (.isi .bool (.bor 0))) (.cons (.ret (.and (.isi .bool (.bor 1)) (.and (.isi .bool (.bor 0)) (.cmp .eq (.bor 0) (.bor 1))))) <|
      .nil) (.nil)) <|
    .cons (.ifs (.isi .int (.bor 1)) (.cons (.ret (.and (.isi .int (.bor 0)) (.cmp .eq (.bor 0) (.bor 1)))) <|
      .nil) (.nil)) <|
    .cons (.ifs (.isi .str (.bor 1)) (.cons (.ret (.and (.isi .str (.bor 0)) (.cmp .eq (.bor 0) (.bor 1)))) <|
      .nil) (.nil)) <|
    .cons (.ret (.and (.cmp .is (.bor 0) .non) (.cmp .is (.bor 1) .non))) <|
    .nil
/-- _law_says(_law_told, _law_due): slots 0 _law_told, 1 _law_due -/
def b5 : CSs :=
    .cons (.ifs (.bor 1) (.cons (.ret (.cmp .is (.bor 0) (.bl true))) <|
      .nil) (.nil)) <|
    .cons (.ret (.cmp .is (.bor 0) (.bl false))) <|
    .nil
/-- _law_kind(_law_shapes, _law_numbers, _law_place, _law_deep, _law_most): slots 0 _law_shapes, 1 _law_numbers, 2 _law_place, 3 _law_deep, 4 _law_most, 5 _law_first -/
def b6 : CSs :=
    .cons (.ifs (.and (.cmp .gt (.bor 3) (.int 0)) (.cmp .gt (.bin .mod (.bi .int (.cons (.idx (.bor 0) (.bor 2)) .nil)) (.int 4)) (.int 0))) (.cons (.asg (.name 5) (.call 6 (.cons (.var 0) (.cons (.var 1) (.cons (.bin .mul (.int 2) (.bor 2)) (.cons (.bin .sub (.bor 3) (.int 1)) (.cons (.var 4) .nil))))))) <|
      .cons (.ret (.tup 1 (.cons (.var 5) (.cons (.call 6 (.cons (.var 0) (.cons (.var 1) (.cons (.bin .add (.bin .mul (.int 2) (.bor 2)) (.int 1)) (.cons (.bin .sub (.bor 3) (.int 1)) (.cons (.var 4) .nil)))))) .nil)))) <|
      .nil) (.nil)) <|
    .cons (.ret (.bin .add (.int 1) (.bin .mod (.bi .int (.cons (.idx (.bor 1) (.bor 2)) .nil)) (.bor 4)))) <|
    .nil
/-- _law_near(_law_kind_here, _law_numbers, _law_place, _law_menu): slots 0 _law_kind_here, 1 _law_numbers, 2 _law_place, 3 _law_menu, 4 _law_first -/
def b7 : CSs :=
    .cons (.ifs (.isi .tuple (.bor 0)) (.cons (.asg (.name 4) (.call 7 (.cons (.idx (.bor 0) (.int 0)) (.cons (.var 1) (.cons (.bin .mul (.int 2) (.bor 2)) (.cons (.var 3) .nil)))))) <|
      .cons (.ret (.tup 1 (.cons (.var 4) (.cons (.call 7 (.cons (.idx (.bor 0) (.int 1)) (.cons (.var 1) (.cons (.bin .add (.bin .mul (.int 2) (.bor 2)) (.int 1)) (.cons (.var 3) .nil))))) .nil)))) <|
      .nil) (.nil)) <|
    .cons (.ret (.bi .max2 (.cons (.int 1) (.cons (.bi .min2 (.cons (.int 999) (.cons (.bin .add (.bor 0) (.idx (.bor 3) (.bin .mod (.bi .int (.cons (.idx (.bor 1) (.bor 2)) .nil)) (.bi .len (.cons (.bor 3) .nil))))) .nil))) .nil)))) <|
    .nil
/-- _law_exchanged(_law_kind_here, _law_row_here, _law_level): slots 0 _law_kind_here, 1 _law_row_here, 2 _law_level, 3 _law_way, 4 _law_part -/
def b8 : CSs :=
    .cons (.ifs (.isi .tuple (.bor 0)) (.cons (.ifs (.cmp .eq (.bin .mod (.idx (.bor 1) (.bor 2)) (.int 4)) (.int 0)) (.cons (.ret (.bin .add (.int 1) (.bin .mod (.bi .int (.cons (.idx (.bor 1) (.int 4)) .nil)) (.int 5)))) <|
        .nil) (.nil)) <|
      .cons (.asg (.name 3) (.bin .mod (.bin .fdiv (.bi .int (.cons (.idx (.bor 1) (.bor 2)) .nil)) (.int 4)) (.int 2))) <|
      .cons (.asg (.name 4) (.call 8 (.cons (.idx (.bor 0) (.bor 3)) (.cons (.var 1) (.cons (.bin .add (.bor 2) (.int 1)) .nil))))) <|
      .cons (.ifs (.cmp .eq (.bor 3) (.int 0)) (.cons (.ret (.tup 1 (.cons (.var 4) (.cons (.idx (.bor 0) (.int 1)) .nil)))) <|
        .nil) (.nil)) <|
      .cons (.ret (.tup 1 (.cons (.idx (.bor 0) (.int 0)) (.cons (.var 4) .nil)))) <|
      .nil) (.nil)) <|
    .cons (.ifs (.cmp .lt (.bor 2) (.int 4)) (.cons (.ret (.tup 1 (.cons (.bi .max2 (.cons (.int 1) (.cons (.bor 0) .nil))) (.cons (.bin .add (.int 1) (.bin .mod (.bi .int (.cons (.idx (.bor 1) (.int 4)) .nil)) (.int 5))) .nil)))) <|
      .nil) (.nil)) <|
    .cons (.ret (.bi .max2 (.cons (.int 1) (.cons (.bin .sub (.bor 0) (.int 1)) .nil)))) <|
    .nil
/-- _law_join(_law_one, _law_other): slots 0 _law_one, 1 _law_other, 2 _law_first, 3 _law_second -/
def b9 : CSs :=
    .cons (.ifs (.cmp .eq (.bor 0) (.int 0)) (.cons (.ret (.mv 1)) <|
      .nil) (.nil)) <|
    .cons (.ifs (.cmp .eq (.bor 1) (.int 0)) (.cons (.ret (.mv 0)) <|
      .nil) (.nil)) <|
    .cons (.ifs (.and (.isi .tuple (.bor 0)) (.isi .tuple (.bor 1))) (.cons (.asg (.name 2) (.call 9 (.cons (.idx (.bor 0) (.int 0)) (.cons (.idx (.bor 1) (.int 0)) .nil)))) <|
      .cons (.asg (.name 3) (.call 9 (.cons (.idx (.bor 0) (.int 1)) (.cons (.idx (.bor 1) (.int 1)) .nil)))) <|
      .cons (.ifs (.or (.cmp .is (.bor 2) .non) (.cmp .is (.bor 3) .non)) (.cons (.ret .non) <|
        .nil) (.nil)) <|
      .cons (.ret (.tup 1 (.cons (.var 2) (.cons (.var 3) .nil)))) <|
      .nil) (.nil)) <|
    .cons (.ifs (.or (.isi .tuple (.bor 0)) (.isi .tuple (.bor 1))) (.cons (.ret .non) <|
      .nil) (.nil)) <|
    .cons (.ret (.bi .max2 (.cons (.bor 0) (.cons (.bor 1) .nil)))) <|
    .nil
/-- _law_has(_law_kind_here, _law_value_here): slots 0 _law_kind_here, 1 _law_value_here -/
def b10 : CSs :=
    .cons (.ifs (.and (.isi .tuple (.bor 0)) (.isi .tuple (.bor 1))) (.cons (.ret (.and (.call 10 (.cons (.idx (.bor 0) (.int 0)) (.cons (.idx (.bor 1) (.int 0)) .nil))) (.call 10 (.cons (.idx (.bor 0) (.int 1)) (.cons (.idx (.bor 1) (.int 1)) .nil))))) <|
      .nil) (.nil)) <|
    .cons (.ifs (.or (.isi .tuple (.bor 0)) (.isi .tuple (.bor 1))) (.cons (.ret (.bl false)) <|
      .nil) (.nil)) <|
    .cons (.ret (.cmp .lt (.bor 1) (.bor 0))) <|
    .nil
/-- _law_top(_law_kind_here): slots 0 _law_kind_here -/
def b11 : CSs :=
    .cons (.ifs (.isi .tuple (.bor 0)) (.cons (.ret (.tup 1 (.cons (.call 11 (.cons (.idx (.bor 0) (.int 0)) .nil)) (.cons (.call 11 (.cons (.idx (.bor 0) (.int 1)) .nil)) .nil)))) <|
      .nil) (.nil)) <|
    .cons (.ret (.bi .max2 (.cons (.int 0) (.cons (.bin .sub (.bor 0) (.int 1)) .nil)))) <|
    .nil
/-- _law_fits(_law_one, _law_other): slots 0 _law_one, 1 _law_other -/
def b12 : CSs :=
    .cons (.ifs (.cmp .eq (.bor 0) (.int 0)) (.cons (.ret (.bl true)) <|
      .nil) (.nil)) <|
    .cons (.ret (.call 10 (.cons (.var 1) (.cons (.call 11 (.cons (.var 0) .nil)) .nil)))) <|
    .nil
/-- _law_value(_law_kind_here, _law_numbers, _law_place): slots 0 _law_kind_here, 1 _law_numbers, 2 _law_place -/
def b13 : CSs :=
    .cons (.ifs (.isi .tuple (.bor 0)) (.cons (.ret (.tup 1 (.cons (.call 13 (.cons (.idx (.bor 0) (.int 0)) (.cons (.var 1) (.cons (.bin .mul (.int 2) (.bor 2)) .nil)))) (.cons (.call 13 (.cons (.idx (.bor 0) (.int 1)) (.cons (.var 1) (.cons (.bin .add (.bin .mul (.int 2) (.bor 2)) (.int 1)) .nil)))) .nil)))) <|
      .nil) (.nil)) <|
    .cons (.ret (.bin .mod (.bi .int (.cons (.idx (.bor 1) (.bor 2)) .nil)) (.bi .max2 (.cons (.int 1) (.cons (.bor 0) .nil))))) <|
    .nil
/-- _law_beyond(_law_kind_here, _law_value_here, _law_row_here, _law_level): slots 0 _law_kind_here, 1 _law_value_here, 2 _law_row_here, 3 _law_level, 4 _law_way, 5 _law_part -/
def b14 : CSs :=
    .cons (.ifs (.isi .tuple (.bor 0)) (.cons (.asg (.name 4) (.bin .mod (.bi .int (.cons (.idx (.bor 2) (.bor 3)) .nil)) (.int 2))) <|
      .cons (.asg (.name 5) (.call 14 (.cons (.idx (.bor 0) (.bor 4)) (.cons (.idx (.bor 1) (.bor 4)) (.cons (.var 2) (.cons (.bin .add (.bor 3) (.int 1)) .nil)))))) <|
      .cons (.ifs (.cmp .eq (.bor 4) (.int 0)) (.cons (.ret (.tup 1 (.cons (.var 5) (.cons (.idx (.bor 1) (.int 1)) .nil)))) <|
        .nil) (.nil)) <|
      .cons (.ret (.tup 1 (.cons (.idx (.bor 1) (.int 0)) (.cons (.var 5) .nil)))) <|
      .nil) (.nil)) <|
    .cons (.ret (.mv 0)) <|
    .nil
/-- _law_kinds(_law_script): slots 0 _law_script, 1 _law_row_here, 2 _law_most, 3 _law_a, 4 _law_numbers, 5 _law_b, 6 _law_c, 7 _law_both -/
def b15 : CSs :=
    .cons (.asg (.name 1) (.call 3 (.cons (.var 0) (.cons (.int 0) (.cons (.int 9) .nil))))) <|
    .cons (.asg (.name 2) (.int 999)) <|
    .cons (.ifs (.cmp .eq (.bin .mod (.idx (.bor 1) (.int 0)) (.int 2)) (.int 0)) (.cons (.asg (.name 2) (.int 3)) <|
      .nil) (.nil)) <|
    .cons (.asg (.name 3) (.call 6 (.cons (.call 3 (.cons (.var 0) (.cons (.int 1) (.cons (.int 32) .nil)))) (.cons (.call 3 (.cons (.var 0) (.cons (.int 2) (.cons (.int 32) .nil)))) (.cons (.int 1) (.cons (.int 4) (.cons (.var 2) .nil))))))) <|
    .cons (.ifs (.cmp .eq (.bin .mod (.idx (.bor 1) (.int 1)) (.int 9)) (.int 0)) (.cons (.asg (.name 3) (.bi .int (.cons (.idx (.bor 1) (.int 2)) .nil))) <|
      .nil) (.nil)) <|
    .cons (.asg (.name 4) (.call 3 (.cons (.var 0) (.cons (.int 4) (.cons (.int 32) .nil))))) <|
    .cons (.asg (.name 5) (.call 6 (.cons (.call 3 (.cons (.var 0) (.cons (.int 3) (.cons (.int 32) .nil)))) (.cons (.var 4) (.cons (.int 1) (.cons (.int 4) (.cons (.var 2) .nil))))))) <|
    .cons (.ifs (.cmp .eq (.bin .mod (.idx (.bor 1) (.int 3)) (.int 6)) (.int 1)) (.cons (.asg (.name 5) (.var 3)) <|
      .nil) (.cons (.ifs (.or (.cmp .eq (.bin .mod (.idx (.bor 1) (.int 3)) (.int 6)) (.int 2)) (.cmp .eq (.bin .mod (.idx (.bor 1) (.int 3)) (.int 6)) (.int 3))) (.cons (.asg (.name 5) (.call 7 (.cons (.var 3) (.cons (.var 4) (.cons (.int 1) (.cons (.lst 1 (.cons (.int 0) (.cons (.int 0) (.cons (.int 0) (.cons (.int 1) (.cons (.int 0) (.cons (.neg (.int 1)) .nil))))))) .nil)))))) <|
        .nil) (.cons (.ifs (.cmp .eq (.bin .mod (.idx (.bor 1) (.int 3)) (.int 6)) (.int 4)) (.cons (.asg (.name 5) (.call 8 (.cons (.var 3) (.cons (.var 4) (.cons (.int 0) .nil))))) <|
          .nil) (.cons (.ifs (.cmp .eq (.bin .mod (.idx (.bor 1) (.int 3)) (.int 6)) (.int 5)) (.cons (.asg (.name 5) (.call 8 (.cons (.call 7 (.cons (.var 3) (.cons (.var 4) (.cons (.int 1) (.cons (.lst 1 (.cons (.int 0) (.cons (.int 1) (.cons (.neg (.int 1)) .nil)))) .nil))))) (.cons (.var 4) (.cons (.int 0) .nil))))) <|
            .nil) (.nil)) <|
          .nil)) <|
        .nil)) <|
      .nil)) <|
    .cons (.ifs (.cmp .eq (.bin .mod (.idx (.bor 1) (.int 4)) (.int 11)) (.int 0)) (.cons (.asg (.name 5) (.bin .mul (.bi .int (.cons (.idx (.bor 1) (.int 5)) .nil)) (.bi .int (.cons (.cmp .gt (.bin .mod (.bin .fdiv (.idx (.bor 1) (.int 4)) (.int 11)) (.int 3)) (.int 0)) .nil)))) <|
      .nil) (.nil)) <|
    .cons (.asg (.name 4) (.call 3 (.cons (.var 0) (.cons (.int 6) (.cons (.int 32) .nil))))) <|
    .cons (.asg (.name 6) (.call 6 (.cons (.call 3 (.cons (.var 0) (.cons (.int 5) (.cons (.int 32) .nil)))) (.cons (.var 4) (.cons (.int 1) (.cons (.int 4) (.cons (.var 2) .nil))))))) <|
    .cons (.asg (.name 7) (.call 9 (.cons (.var 3) (.cons (.var 5) .nil)))) <|
    .cons (.ifs (.cmp .is (.bor 7) .non) (.cons (.asg (.name 7) (.var 3)) <|
      .nil) (.nil)) <|
    .cons (.ifs (.or (.cmp .eq (.bin .mod (.idx (.bor 1) (.int 6)) (.int 6)) (.int 1)) (.cmp .eq (.bin .mod (.idx (.bor 1) (.int 6)) (.int 6)) (.int 2))) (.cons (.asg (.name 6) (.call 7 (.cons (.var 7) (.cons (.var 4) (.cons (.int 1) (.cons (.lst 1 (.cons (.int 0) (.cons (.int 0) (.cons (.int 1) .nil)))) .nil)))))) <|
      .nil) (.cons (.ifs (.cmp .eq (.bin .mod (.idx (.bor 1) (.int 6)) (.int 6)) (.int 3)) (.cons (.asg (.name 6) (.call 7 (.cons (.var 7) (.cons (.var 4) (.cons (.int 1) (.cons (.lst 1 (.cons (.int 0) (.cons (.int 0) (.cons (.int 0) (.cons (.int 0) (.cons (.int 0) (.cons (.int 0) (.cons (.int 0) (.cons (.neg (.int 1)) .nil))))))))) .nil)))))) <|
        .nil) (.cons (.ifs (.cmp .eq (.bin .mod (.idx (.bor 1) (.int 6)) (.int 6)) (.int 4)) (.cons (.asg (.name 6) (.call 8 (.cons (.var 7) (.cons (.var 4) (.cons (.int 0) .nil))))) <|
          .nil) (.cons (.ifs (.cmp .eq (.bin .mod (.idx (.bor 1) (.int 6)) (.int 6)) (.int 5)) (.cons (.asg (.name 6) (.call 7 (.cons (.var 5) (.cons (.var 4) (.cons (.int 1) (.cons (.lst 1 (.cons (.int 0) (.cons (.int 1) (.cons (.neg (.int 1)) .nil)))) .nil)))))) <|
            .nil) (.nil)) <|
          .nil)) <|
        .nil)) <|
      .nil)) <|
    .cons (.asg (.name 4) (.call 3 (.cons (.var 0) (.cons (.int 7) (.cons (.int 32) .nil))))) <|
    .cons (.ret (.lst 1 (.cons (.var 3) (.cons (.var 5) (.cons (.var 6) (.cons (.call 7 (.cons (.var 3) (.cons (.var 4) (.cons (.int 1) (.cons (.lst 1 (.cons (.int 0) (.cons (.int 0) (.cons (.int 1) (.cons (.neg (.int 1)) .nil))))) .nil))))) (.cons (.call 8 (.cons (.var 3) (.cons (.var 4) (.cons (.int 0) .nil)))) .nil))))))) <|
    .nil
/-- _law_values(_law_script, _law_kinds_here): slots 0 _law_script, 1 _law_kinds_here, 2 _law_values_here, 3 _law_at, 4 _law_numbers, 5 _law_value_here, 6 _law_top_here -/
def b16 : CSs :=
    .cons (.asg (.name 2) (.lst 1 (.cons (.int 0) (.cons (.tup 1 (.cons (.int 0) (.cons (.int 0) .nil))) .nil)))) <|
    .cons (.for (.name 3) (.range1 (.bi .len (.cons (.bor 1) .nil))) (.cons (.asg (.name 4) (.call 3 (.cons (.var 0) (.cons (.bin .add (.int 8) (.bor 3)) (.cons (.int 32) .nil))))) <|
      .cons (.asg (.name 5) (.call 13 (.cons (.idx (.bor 1) (.bor 3)) (.cons (.var 4) (.cons (.int 1) .nil))))) <|
      .cons (.asg (.name 6) (.call 11 (.cons (.idx (.bor 1) (.bor 3)) .nil))) <|
      .cons (.asg (.name 2) (.cat (.bor 2) (.lst 1 (.cons (.var 6) (.cons (.var 5) (.cons (.call 14 (.cons (.idx (.bor 1) (.bor 3)) (.cons (.idx (.lst 1 (.cons (.var 6) (.cons (.var 5) .nil))) (.bin .mod (.bi .int (.cons (.idx (.bor 4) (.int 31)) .nil)) (.int 2))) (.cons (.var 4) (.cons (.int 0) .nil))))) .nil)))))) <|
      .cons (.app 2 (.call 8 (.cons (.var 5) (.cons (.var 4) (.cons (.int 0) .nil))))) <|
      .nil)) <|
    .cons (.ret (.mv 2)) <|
    .nil
/-- law(_law_script): slots 0 _law_script, 1 _law_kinds_here, 2 _law_values_here, 3 _law_one, 4 _law_other, 5 _law_both, 6 _law_value_here -/
def b17 : CSs :=
    .cons (.asg (.name 1) (.call 15 (.cons (.var 0) .nil))) <|
    .cons (.asg (.name 2) (.call 16 (.cons (.var 0) (.cons (.bor 1) .nil)))) <|
    .cons (.for (.tup [3, 4]) (.val (.tup 1 (.cons (.tup 1 (.cons (.int 0) (.cons (.int 1) .nil))) (.cons (.tup 1 (.cons (.int 1) (.cons (.int 2) .nil))) (.cons (.tup 1 (.cons (.int 2) (.cons (.int 0) .nil))) .nil))))) (.cons (.asg (.name 5) (.call 9 (.cons (.idx (.bor 1) (.bor 3)) (.cons (.idx (.bor 1) (.bor 4)) .nil)))) <|
      .cons (.ifs (.cmp .isNot (.bor 5) .non) (.cons (.app 1 (.var 5)) <|
        .nil) (.nil)) <|
      .nil)) <|
    .cons (.app 1 (.int 0)) <|
    .cons (.for (.name 3) (.val (.var 1)) (.cons (.for (.name 4) (.val (.var 1)) (.cons (.ifs (.not (.call 4 (.cons (.call 0 (.cons (.var 3) (.cons (.var 4) .nil))) (.cons (.call 9 (.cons (.var 3) (.cons (.var 4) .nil))) .nil)))) (.cons (.ret (.bl false)) <|
          .nil) (.nil)) <|
        .cons (.ifs (.not (.call 5 (.cons (.call 1 (.cons (.var 3) (.cons (.var 4) .nil))) (.cons (.call 12 (.cons (.var 3) (.cons (.var 4) .nil))) .nil)))) (.cons (.ret (.bl false)) <|
          .nil) (.nil)) <|
        .nil)) <|
      .cons (.for (.name 6) (.val (.var 2)) (.cons (.ifs (.not (.call 5 (.cons (.call 2 (.cons (.var 3) (.cons (.var 6) .nil))) (.cons (.call 10 (.cons (.var 3) (.cons (.var 6) .nil))) .nil)))) (.cons (.ret (.bl false)) <|
          .nil) (.nil)) <|
        .nil)) <|
      .nil)) <|
    .cons (.ret (.bl true)) <|
    .nil
def tbl : List Fd := [⟨2, 4, b0⟩, ⟨2, 2, b1⟩, ⟨2, 2, b2⟩, ⟨3, 7, b3⟩, ⟨2, 3, b4⟩, ⟨2, 2, b5⟩, ⟨5, 6, b6⟩, ⟨4, 5, b7⟩, ⟨3, 5, b8⟩, ⟨2, 4, b9⟩, ⟨2, 2, b10⟩, ⟨1, 1, b11⟩, ⟨2, 2, b12⟩, ⟨3, 3, b13⟩, ⟨4, 6, b14⟩, ⟨1, 8, b15⟩, ⟨2, 7, b16⟩, ⟨1, 7, b17⟩]
def Tbl : Nat → Option Fd := fun n => tbl[n]?
end K05
end

section
namespace K05
open BT
variable {n : Nat} {sto : Sto}
abbrev W : Nat := 100000
@[simp] theorem eqD_ints (x y : Int) : eqD (.int x) (.int y) = some (decide (x = y)) := rfl
@[simp] theorem eqD_bls (x y : Bool) : eqD (.bl x) (.bl y) = some (decide (x = y)) := rfl
/-! ### kinds and values -/
inductive Kd where
  | leaf (i : Int)
  | pair (a b : Kd)
deriving DecidableEq
def Kd.d : Kd → D
  | .leaf i => .int i
  | .pair a b => .tup [a.d, b.d]
def dk : Kd → Nat
  | .leaf _ => 0
  | .pair a b => max (dk a) (dk b) + 1
def Ps : Kd → Prop
  | .leaf i => 1 ≤ i
  | .pair a b => Ps a ∧ Ps b
def Gk (a : Kd) : Prop := a = .leaf 0 ∨ Ps a
def mx (i j : Int) : Int := if j > i then j else i
def join (a b : Kd) : Option Kd := if a = .leaf 0 then some b else if b = .leaf 0 then some a else match a, b with
  | .pair a0 a1, .pair b0 b1 => match join a0 b0, join a1 b1 with
    | some x, some y => some (.pair x y)
    | _, _ => none
  | .leaf i, .leaf j => some (.leaf (mx i j))
  | _, _ => none
theorem join_l (b : Kd) : join (.leaf 0) b = some b := by cases b <;> simp [join]
theorem join_r (a : Kd) : join a (.leaf 0) = some a := by
  cases a with
  | leaf i => by_cases h : i = 0 <;> simp [join, h]
  | pair a b => simp [join]
theorem join_pp (a0 a1 b0 b1 : Kd) : join (.pair a0 a1) (.pair b0 b1) = match join a0 b0, join a1 b1 with
    | some x, some y => some (.pair x y)
    | _, _ => none := by
  rw [join]; simp
theorem join_ll {i j : Int} (hi : i ≠ 0) (hj : j ≠ 0) : join (.leaf i) (.leaf j) = some (.leaf (mx i j)) := by
  rw [join]; simp [hi, hj]
theorem join_lp {i : Int} (hi : i ≠ 0) (a b : Kd) : join (.leaf i) (.pair a b) = none := by simp [join, hi]
theorem join_pl {i : Int} (hi : i ≠ 0) (a b : Kd) : join (.pair a b) (.leaf i) = none := by simp [join, hi]
def od : Option Kd → D
  | none => .non
  | some a => a.d
def has : Kd → Kd → Bool
  | .pair a0 a1, .pair b0 b1 => has a0 b0 && has a1 b1
  | .leaf i, .leaf j => decide (j < i)
  | _, _ => false
def top : Kd → Kd
  | .leaf i => .leaf (mx 0 (i - 1))
  | .pair a b => .pair (top a) (top b)
theorem plain_d : ∀ a : Kd, plain a.d = true
  | .leaf _ => rfl
  | .pair a b => by simp [Kd.d, plain, plainL, plain_d a, plain_d b]
theorem noL_d : ∀ a : Kd, noL a.d = true
  | .leaf _ => rfl
  | .pair a b => by simp [Kd.d, noL, noLL, noL_d a, noL_d b]
theorem dep_d : ∀ a : Kd, dep a.d = dk a
  | .leaf _ => rfl
  | .pair a b => by simp [Kd.d, dep, depL, dk, dep_d a, dep_d b]
theorem eqB_d : ∀ a b : Kd, eqB a.d b.d = decide (a = b)
  | .leaf i, .leaf j => by simp [Kd.d, eqB]
  | .leaf i, .pair _ _ => by simp [Kd.d, eqB]
  | .pair _ _, .leaf j => by simp [Kd.d, eqB]
  | .pair a b, .pair c e => by simp [Kd.d, eqB, eqL, eqB_d a c, eqB_d b e]
theorem eqD_d {a b : Kd} (ha : dk a ≤ 90) (hb : dk b ≤ 90) : eqD a.d b.d = some (decide (a = b)) := by
  have h1 : dep a.d ≤ 100 := by rw [dep_d]; omega
  have h2 : dep b.d ≤ 100 := by rw [dep_d]; omega
  simp [eqD, okD, plain_d, h1, h2, eqB_d]
theorem eqD_0 {a b : Kd} (ha : dk (.pair a b) ≤ 90) : eqD (.tup [a.d, b.d]) (.int 0) = some false := by
  have := eqD_d (b := .leaf 0) ha (by decide)
  simpa [Kd.d] using this
@[simp] theorem idx_t0 (x y : D) : idxD (.tup [x, y]) (.int 0) = some x := rfl
@[simp] theorem idx_t1 (x y : D) : idxD (.tup [x, y]) (.int 1) = some y := rfl
/-! ### joined -/
def bj (f : Nat) : CSs :=
    .cons (.ifs (.cmp .eq (.bor 0) (.int 0)) (.cons (.ret (.mv 1)) <|
      .nil) (.nil)) <|
    .cons (.ifs (.cmp .eq (.bor 1) (.int 0)) (.cons (.ret (.mv 0)) <|
      .nil) (.nil)) <|
    .cons (.ifs (.and (.isi .tuple (.bor 0)) (.isi .tuple (.bor 1))) (.cons (.asg (.name 2) (.call f (.cons (.idx (.bor 0) (.int 0)) (.cons (.idx (.bor 1) (.int 0)) .nil)))) <|
      .cons (.asg (.name 3) (.call f (.cons (.idx (.bor 0) (.int 1)) (.cons (.idx (.bor 1) (.int 1)) .nil)))) <|
      .cons (.ifs (.or (.cmp .is (.bor 2) .non) (.cmp .is (.bor 3) .non)) (.cons (.ret .non) <|
        .nil) (.nil)) <|
      .cons (.ret (.tup 1 (.cons (.var 2) (.cons (.var 3) .nil)))) <|
      .nil) (.nil)) <|
    .cons (.ifs (.or (.isi .tuple (.bor 0)) (.isi .tuple (.bor 1))) (.cons (.ret .non) <|
      .nil) (.nil)) <|
    .cons (.ret (.bi .max2 (.cons (.bor 0) (.cons (.bor 1) .nil)))) <|
    .nil
/-- an item of a frozen pair, at hand -/
theorem scal_if {α : Type} (d : D) (x : α) : (if scal d = true then x else x) = x := by split <;> rfl
theorem isD_nn : isD .non .non = some true := rfl
theorem isD_bb (a b : Bool) : isD (.bl a) (.bl b) = some (decide (a = b)) := rfl
theorem isN (a : Kd) : isD a.d .non = some false := by cases a <;> rfl
theorem max_ok (i j : Int) : biD .max2 [.int i, .int j] = some (.int (mx i j)) := rfl
theorem join_ok {f : Nat} (hf : Tbl f = some ⟨2, 4, bj f⟩) : ∀ (a b : Kd) (n : Nat), dk a < n → dk a ≤ 90 → dk b ≤ 90 → ∃ k, callF Tbl W n f [a.d, b.d] sto = .ok k (od (join a b)) sto := by
  intro a
  induction a with
  | leaf i =>
    intro b n hn ha hb
    obtain ⟨m, rfl⟩ : ∃ m, n = m + 1 := ⟨n - 1, by omega⟩
    rw [callF_eq hf rfl (show 2 ≤ 4 by decide)]
    by_cases h0 : i = 0
    · subst h0
      exact ⟨0, by simp [bj, Kd.d, evalSs, evalS, evalT, evalE, Out.bind, Out.fl, EV.d, liftB, cmpop, truth, Fl.call, join_l, join_r, join_pp, join_ll, join_lp, join_pl, od]⟩
    cases b with
    | leaf j =>
      by_cases h1 : j = 0
      · subst h1
        exact ⟨0, by simp [bj, Kd.d, evalSs, evalS, evalT, evalE, Out.bind, Out.fl, EV.d, liftB, cmpop, truth, Fl.call, join_l, join_r, join_pp, join_ll, join_lp, join_pl, od, h0]⟩
      · exact ⟨0, by simp [bj, Kd.d, evalSs, evalS, evalT, evalE, evalEs, Out.bind, Out.fl, EV.d, lift, liftB, cmpop, truth, isiD, max_ok, Fl.call, join_l, join_r, join_pp, join_ll, join_lp, join_pl, od, h0, h1]⟩
    | pair c e =>
      have e0 := eqD_0 hb
      exact ⟨0, by simp [bj, Kd.d, evalSs, evalS, evalT, evalE, Out.bind, Out.fl, EV.d, liftB, cmpop, truth, isiD, Fl.call, join_l, join_r, join_pp, join_ll, join_lp, join_pl, od, h0, e0]⟩
  | pair a0 a1 ih0 ih1 =>
    intro b n hn ha hb
    obtain ⟨m, rfl⟩ : ∃ m, n = m + 1 := ⟨n - 1, by omega⟩
    rw [callF_eq hf rfl (show 2 ≤ 4 by decide)]
    have e1 := eqD_0 ha
    cases b with
    | leaf j =>
      by_cases h1 : j = 0
      · subst h1
        exact ⟨0, by simp [bj, Kd.d, evalSs, evalS, evalT, evalE, Out.bind, Out.fl, EV.d, liftB, cmpop, truth, Fl.call, join_l, join_r, join_pp, join_ll, join_lp, join_pl, od, e1]⟩
      · exact ⟨0, by simp [bj, Kd.d, evalSs, evalS, evalT, evalE, Out.bind, Out.fl, EV.d, liftB, cmpop, truth, isiD, Fl.call, join_l, join_r, join_pp, join_ll, join_lp, join_pl, od, h1, e1]⟩
    | pair c e =>
      have e0 := eqD_0 hb
      simp only [dk] at hn ha hb
      obtain ⟨k0, g0⟩ := ih0 c m (by omega) (by omega) (by omega)
      obtain ⟨k1, g1⟩ := ih1 e m (by omega) (by omega) (by omega)
      cases j0 : join a0 c with
      | none =>
        rw [j0] at g0
        exact ⟨0, by simp [bj, Kd.d, evalSs, evalS, evalT, evalE, evalEs, Out.bind, Out.fl, EV.d, EV.free, liftB, cmpop, truth, isiD, assign, optFl, isD_nn, isN, Fl.call, join_l, join_r, join_pp, join_ll, join_lp, join_pl, od, e0, e1, j0, g0, g1, scal_if]⟩
      | some x =>
        rw [j0] at g0
        cases j1 : join a1 e with
        | none =>
          rw [j1] at g1
          exact ⟨0, by simp [bj, Kd.d, evalSs, evalS, evalT, evalE, evalEs, Out.bind, Out.fl, EV.d, EV.free, liftB, cmpop, truth, isiD, assign, optFl, isD_nn, isN, Fl.call, join_l, join_r, join_pp, join_ll, join_lp, join_pl, od, e0, e1, j0, j1, g0, g1, scal_if]⟩
        | some y =>
          rw [j1] at g1
          exact ⟨1, by simp [bj, Kd.d, evalSs, evalS, evalT, evalE, evalEs, Out.bind, Out.fl, EV.d, EV.free, EV.fit, BT.fit, LIM, liftB, cmpop, truth, isiD, assign, optFl, isD_nn, isN, Fl.call, join_l, join_r, join_pp, join_ll, join_lp, join_pl, od, e0, e1, j0, j1, g0, g1, scal_if]⟩
end K05
end

section
namespace K05
open BT
variable {n : Nat} {sto : Sto}
/-! ### has, top -/
def bh (f : Nat) : CSs :=
    .cons (.ifs (.and (.isi .tuple (.bor 0)) (.isi .tuple (.bor 1))) (.cons (.ret (.and (.call f (.cons (.idx (.bor 0) (.int 0)) (.cons (.idx (.bor 1) (.int 0)) .nil))) (.call f (.cons (.idx (.bor 0) (.int 1)) (.cons (.idx (.bor 1) (.int 1)) .nil))))) <|
      .nil) (.nil)) <|
    .cons (.ifs (.or (.isi .tuple (.bor 0)) (.isi .tuple (.bor 1))) (.cons (.ret (.bl false)) <|
      .nil) (.nil)) <|
    .cons (.ret (.cmp .lt (.bor 1) (.bor 0))) <|
    .nil
theorem has_ok {f : Nat} (hf : Tbl f = some ⟨2, 2, bh f⟩) : ∀ (a b : Kd) (n : Nat), dk a < n → ∃ k, callF Tbl W n f [a.d, b.d] sto = .ok k (.bl (has a b)) sto := by
  intro a
  induction a with
  | leaf i =>
    intro b n hn
    obtain ⟨m, rfl⟩ : ∃ m, n = m + 1 := ⟨n - 1, by omega⟩
    rw [callF_eq hf rfl (show 2 ≤ 2 by decide)]
    cases b with
    | leaf j => exact ⟨0, by simp [bh, Kd.d, evalSs, evalS, evalT, evalE, evalEs, Out.bind, Out.fl, EV.d, EV.free, EV.fit, BT.fit, lift, liftB, cmpop, truth, assign, optFl, Fl.call, isD_nn, isD_bb, isN, scal_if, LIM, isiD, has]⟩
    | pair c e => exact ⟨0, by simp [bh, Kd.d, evalSs, evalS, evalT, evalE, evalEs, Out.bind, Out.fl, EV.d, EV.free, EV.fit, BT.fit, lift, liftB, cmpop, truth, assign, optFl, Fl.call, isD_nn, isD_bb, isN, scal_if, LIM, isiD, has]⟩
  | pair a0 a1 ih0 ih1 =>
    intro b n hn
    obtain ⟨m, rfl⟩ : ∃ m, n = m + 1 := ⟨n - 1, by omega⟩
    rw [callF_eq hf rfl (show 2 ≤ 2 by decide)]
    cases b with
    | leaf j => exact ⟨0, by simp [bh, Kd.d, evalSs, evalS, evalT, evalE, evalEs, Out.bind, Out.fl, EV.d, EV.free, EV.fit, BT.fit, lift, liftB, cmpop, truth, assign, optFl, Fl.call, isD_nn, isD_bb, isN, scal_if, LIM, isiD, has]⟩
    | pair c e =>
      simp only [dk] at hn
      obtain ⟨k0, g0⟩ := ih0 c m (by omega)
      obtain ⟨k1, g1⟩ := ih1 e m (by omega)
      cases h0 : has a0 c with
      | false =>
        rw [h0] at g0
        exact ⟨k0, by simp [bh, Kd.d, evalSs, evalS, evalT, evalE, evalEs, Out.bind, Out.fl, EV.d, EV.free, EV.fit, BT.fit, lift, liftB, cmpop, truth, assign, optFl, Fl.call, isD_nn, isD_bb, isN, scal_if, LIM, isiD, has, h0, g0]⟩
      | true =>
        rw [h0] at g0
        exact ⟨k1, by simp [bh, Kd.d, evalSs, evalS, evalT, evalE, evalEs, Out.bind, Out.fl, EV.d, EV.free, EV.fit, BT.fit, lift, liftB, cmpop, truth, assign, optFl, Fl.call, isD_nn, isD_bb, isN, scal_if, LIM, isiD, has, h0, g0, g1]⟩
theorem top_ok : ∀ (a : Kd) (n : Nat), dk a < n → ∃ k, callF Tbl W n 11 [a.d] sto = .ok k (top a).d sto := by
  intro a
  induction a with
  | leaf i =>
    intro n hn
    obtain ⟨m, rfl⟩ : ∃ m, n = m + 1 := ⟨n - 1, by omega⟩
    rw [callF_eq (fd := ⟨1, 1, b11⟩) rfl rfl (by decide)]
    exact ⟨0, by simp [b11, Kd.d, evalSs, evalS, evalT, evalE, evalEs, Out.bind, Out.fl, EV.d, EV.free, EV.fit, BT.fit, lift, liftB, cmpop, truth, assign, optFl, Fl.call, isD_nn, isD_bb, isN, scal_if, LIM, isiD, top, max_ok, binop_sub]⟩
  | pair a0 a1 ih0 ih1 =>
    intro n hn
    obtain ⟨m, rfl⟩ : ∃ m, n = m + 1 := ⟨n - 1, by omega⟩
    rw [callF_eq (fd := ⟨1, 1, b11⟩) rfl rfl (by decide)]
    simp only [dk] at hn
    obtain ⟨k0, g0⟩ := ih0 m (by omega)
    obtain ⟨k1, g1⟩ := ih1 m (by omega)
    exact ⟨1, by simp [b11, Kd.d, evalSs, evalS, evalT, evalE, evalEs, Out.bind, Out.fl, EV.d, EV.free, EV.fit, BT.fit, lift, liftB, cmpop, truth, assign, optFl, Fl.call, isD_nn, isD_bb, isN, scal_if, LIM, isiD, top, g0, g1]⟩
theorem dk_top : ∀ a : Kd, dk (top a) = dk a
  | .leaf _ => rfl
  | .pair a b => by simp [top, dk, dk_top a, dk_top b]
theorem dk_join : ∀ (a b x : Kd), join a b = some x → dk x ≤ max (dk a) (dk b) := by
  intro a
  induction a with
  | leaf i =>
    intro b x h
    by_cases hi : i = 0
    · subst hi; rw [join_l] at h; cases h; omega
    cases b with
    | leaf j =>
      by_cases hj : j = 0
      · subst hj; rw [join_r] at h; cases h; omega
      · rw [join_ll hi hj] at h; cases h; simp [dk]
    | pair c e => rw [join_lp hi] at h; cases h
  | pair a0 a1 ih0 ih1 =>
    intro b x h
    cases b with
    | leaf j =>
      by_cases hj : j = 0
      · subst hj; rw [join_r] at h; cases h; omega
      · rw [join_pl hj] at h; cases h
    | pair c e =>
      rw [join_pp] at h
      cases j0 : join a0 c with
      | none => rw [j0] at h; cases h
      | some y =>
        cases j1 : join a1 e with
        | none => rw [j0, j1] at h; cases h
        | some z =>
          rw [j0, j1] at h
          cases h
          have := ih0 c y j0
          have := ih1 e z j1
          simp only [dk]
          omega
theorem ps_join : ∀ (a b x : Kd), Ps a → Ps b → join a b = some x → Ps x := by
  intro a
  induction a with
  | leaf i =>
    intro b x ha hb h
    have hi : i ≠ 0 := by simp only [Ps] at ha; omega
    cases b with
    | leaf j =>
      have hj : j ≠ 0 := by simp only [Ps] at hb; omega
      rw [join_ll hi hj] at h; cases h
      simp only [Ps] at ha hb ⊢
      unfold mx; split <;> omega
    | pair c e => rw [join_lp hi] at h; cases h
  | pair a0 a1 ih0 ih1 =>
    intro b x ha hb h
    cases b with
    | leaf j =>
      have hj : j ≠ 0 := by simp only [Ps] at hb; omega
      rw [join_pl hj] at h; cases h
    | pair c e =>
      rw [join_pp] at h
      cases j0 : join a0 c with
      | none => rw [j0] at h; cases h
      | some y =>
        cases j1 : join a1 e with
        | none => rw [j0, j1] at h; cases h
        | some z =>
          rw [j0, j1] at h
          cases h
          exact ⟨ih0 c y ha.1 hb.1 j0, ih1 e z ha.2 hb.2 j1⟩
theorem gk_join {a b x : Kd} (ha : Gk a) (hb : Gk b) (h : join a b = some x) : Gk x := by
  rcases ha with rfl | ha
  · rw [join_l] at h; cases h; exact hb
  rcases hb with rfl | hb
  · rw [join_r] at h; cases h; exact .inr ha
  exact .inr (ps_join a b x ha hb h)
/-- the law of joined kinds -/
theorem fit_ps : ∀ (a b : Kd), Ps a → Ps b → decide (join a b = some b) = has b (top a) := by
  intro a
  induction a with
  | leaf i =>
    intro b ha hb
    have hi : i ≠ 0 := by simp only [Ps] at ha; omega
    cases b with
    | leaf j =>
      have hj : j ≠ 0 := by simp only [Ps] at hb; omega
      rw [join_ll hi hj]
      simp only [Ps] at ha hb
      simp only [top, has, Option.some.injEq, Kd.leaf.injEq, mx]
      congr 1
      apply propext
      constructor
      · intro h
        split at h <;> split <;> omega
      · intro h
        split at h <;> split <;> omega
    | pair c e => rw [join_lp hi]; simp [top, has]
  | pair a0 a1 ih0 ih1 =>
    intro b ha hb
    cases b with
    | leaf j =>
      have hj : j ≠ 0 := by simp only [Ps] at hb; omega
      rw [join_pl hj]; simp [top, has]
    | pair c e =>
      rw [join_pp]
      simp only [top, has]
      rw [← ih0 c ha.1 hb.1, ← ih1 e ha.2 hb.2]
      cases j0 : join a0 c with
      | none => simp
      | some y => cases j1 : join a1 e <;> simp
theorem fit_gk {a b : Kd} (ha : Gk a) (hb : Gk b) : decide (join a b = some b) = (if a = .leaf 0 then true else has b (top a)) := by
  rcases ha with rfl | ha
  · rw [join_l]; simp
  have h0 : a ≠ .leaf 0 := by rintro rfl; simp only [Ps] at ha; omega
  rw [if_neg h0]
  rcases hb with rfl | hb
  · rw [join_r]
    cases a with
    | leaf i =>
      have h1 : ¬ i = 0 := fun e => h0 (by rw [e])
      simp only [Option.some.injEq, Kd.leaf.injEq, h1, decide_false, top, has, mx]
      refine (decide_eq_false ?_).symm
      split <;> omega
    | pair c e => simp [top, has]
  · exact fit_ps a b ha hb
theorem eqD_od {o : Option Kd} {b : Kd} (ho : ∀ x, o = some x → dk x ≤ 90) (hb : dk b ≤ 90) : eqD (od o) b.d = some (decide (o = some b)) := by
  cases o with
  | none =>
    have h2 : dep b.d ≤ 100 := by rw [dep_d]; omega
    have : eqB .non b.d = false := by cases b <;> rfl
    simp [od, eqD, okD, plain_d, h2, this, plain, dep]
  | some x => simp only [od]; rw [eqD_d (ho x rfl) hb]; simp
theorem fits_ok {a b : Kd} (ha : dk a ≤ 20) (hb : dk b ≤ 20) (hn : 22 ≤ n) : callF Tbl W n 1 [a.d, b.d] sto = .ok 0 (.bl (decide (join a b = some b))) sto := by
  obtain ⟨m, rfl⟩ : ∃ m, n = m + 1 := ⟨n - 1, by omega⟩
  obtain ⟨k, g⟩ := join_ok (f := 0) (sto := sto) rfl a b m (by omega) (by omega) (by omega)
  rw [callF_eq (fd := ⟨2, 2, b1⟩) rfl rfl (by decide)]
  have e := eqD_od (o := join a b) (b := b) (fun x h => by have := dk_join a b x h; omega) (by omega)
  simp [b1, evalSs, evalS, evalT, evalE, evalEs, Out.bind, Out.fl, EV.d, EV.free, EV.fit, BT.fit, lift, liftB, cmpop, truth, assign, optFl, Fl.call, isD_nn, isD_bb, isN, scal_if, LIM, g, e]
theorem lfits_ok {a b : Kd} (ha : dk a ≤ 20) (hb : dk b ≤ 20) (hn : 22 ≤ n) : ∃ k, callF Tbl W n 12 [a.d, b.d] sto = .ok k (.bl (if a = .leaf 0 then true else has b (top a))) sto := by
  obtain ⟨m, rfl⟩ : ∃ m, n = m + 1 := ⟨n - 1, by omega⟩
  obtain ⟨k, g⟩ := top_ok (sto := sto) a m (by omega)
  obtain ⟨l, g2⟩ := has_ok (f := 10) (sto := sto) rfl b (top a) m (by omega)
  rw [callF_eq (fd := ⟨2, 2, b12⟩) rfl rfl (by decide)]
  have e := eqD_d (a := a) (b := .leaf 0) (by omega) (by decide)
  have e : eqD a.d (.int 0) = some (decide (a = .leaf 0)) := e
  by_cases h : a = .leaf 0
  · subst h; exact ⟨0, by simp [b12, evalSs, evalS, evalT, evalE, evalEs, Out.bind, Out.fl, EV.d, EV.free, EV.fit, BT.fit, lift, liftB, cmpop, truth, assign, optFl, Fl.call, isD_nn, isD_bb, isN, scal_if, LIM, e]⟩
  · exact ⟨l, by simp [b12, evalSs, evalS, evalT, evalE, evalEs, Out.bind, Out.fl, EV.d, EV.free, EV.fit, BT.fit, lift, liftB, cmpop, truth, assign, optFl, Fl.call, isD_nn, isD_bb, isN, scal_if, LIM, e, h, g, g2]⟩
theorem says_ok (x y : Bool) : callF Tbl W (n + 1) 5 [.bl x, .bl y] sto = .ok 0 (.bl (decide (x = y))) sto := by
  rw [callF_eq (fd := ⟨2, 2, b5⟩) rfl rfl (by decide)]
  cases x <;> cases y <;> simp [b5, evalSs, evalS, evalT, evalE, evalEs, Out.bind, Out.fl, EV.d, EV.free, EV.fit, BT.fit, lift, liftB, cmpop, truth, assign, optFl, Fl.call, isD_nn, isD_bb, isN, scal_if, LIM]
theorem equal_ok : ∀ (a : Kd) (n : Nat), dk a < n → callF Tbl W n 4 [a.d, a.d] sto = .ok 0 (.bl true) sto := by
  intro a
  induction a with
  | leaf i =>
    intro n hn
    obtain ⟨m, rfl⟩ : ∃ m, n = m + 1 := ⟨n - 1, by omega⟩
    rw [callF_eq (fd := ⟨2, 3, b4⟩) rfl rfl (by decide)]
    simp [b4, Kd.d, evalSs, evalS, evalT, evalE, evalEs, Out.bind, Out.fl, EV.d, EV.free, EV.fit, BT.fit, lift, liftB, cmpop, truth, assign, optFl, Fl.call, isD_nn, isD_bb, isN, scal_if, LIM, isiD]
  | pair a0 a1 ih0 ih1 =>
    intro n hn
    obtain ⟨m, rfl⟩ : ∃ m, n = m + 1 := ⟨n - 1, by omega⟩
    rw [callF_eq (fd := ⟨2, 3, b4⟩) rfl rfl (by decide)]
    simp only [dk] at hn
    have g0 := ih0 m (by omega)
    have g1 := ih1 m (by omega)
    have hr : ∀ z, evalI (callF Tbl W m) (.range1 (.bi .len (.cons (.bor 1) .nil))) ⟨[some (0, .tup [a0.d, a1.d]), some (0, .tup [a0.d, a1.d]), z], sto⟩ = .ok [.int 0, .int 1] ⟨[some (0, .tup [a0.d, a1.d]), some (0, .tup [a0.d, a1.d]), z], sto⟩ := fun z =>
      evalI_range1 (x := .own 0 (.int 2)) (n := 2) (by simp [evalSs, evalS, evalT, evalE, evalEs, Out.bind, Out.fl, EV.d, EV.free, EV.fit, BT.fit, lift, liftB, cmpop, truth, assign, optFl, Fl.call, isD_nn, isD_bb, isN, scal_if, LIM, biD]) rfl (by decide) (by decide)
    simp [b4, Kd.d, evalSs, evalS, evalT, evalE, evalEs, Out.bind, Out.fl, EV.d, EV.free, EV.fit, BT.fit, lift, liftB, cmpop, truth, assign, optFl, Fl.call, isD_nn, isD_bb, isN, scal_if, LIM, isiD, biD, hr, forL, g0, g1]
theorem equal_od (o : Option Kd) (n : Nat) (hn : ∀ x, o = some x → dk x < n) (h1 : 0 < n) : callF Tbl W n 4 [od o, od o] sto = .ok 0 (.bl true) sto := by
  cases o with
  | none =>
    obtain ⟨m, rfl⟩ : ∃ m, n = m + 1 := ⟨n - 1, by omega⟩
    rw [callF_eq (fd := ⟨2, 3, b4⟩) rfl rfl (by decide)]
    simp [b4, od, evalSs, evalS, evalT, evalE, evalEs, Out.bind, Out.fl, EV.d, EV.free, EV.fit, BT.fit, lift, liftB, cmpop, truth, assign, optFl, Fl.call, isD_nn, isD_bb, isN, scal_if, LIM, isiD]
  | some x => exact equal_ok x n (hn x rfl)
end K05
end

section
set_option pp.maxSteps 700
namespace K05
open BT
variable {n : Nat} {sto : Sto}
theorem il_at {rs : List Int} {p : Nat} (h : p < rs.length) : ∃ x, rs[p]? = some x ∧ idxD (il rs) (.int (p : Int)) = some (.int x) :=
  ⟨rs[p], by simp [h], idx_ints (by simp [h])⟩
theorem il_mod {ms : List Int} (h : ms ≠ []) (x : Int) : ∃ y, idxD (il ms) (.int (x % (ms.length : Int))) = some (.int y) := by
  have hp : 0 < ms.length := List.length_pos_iff.mpr h
  have h1 := Int.emod_nonneg x (show (ms.length : Int) ≠ 0 by omega)
  have h2 := Int.emod_lt_of_pos x (show (0 : Int) < ms.length by omega)
  obtain ⟨j, hj⟩ : ∃ j : Nat, x % (ms.length : Int) = j := ⟨(x % (ms.length : Int)).toNat, by omega⟩
  rw [hj] at h1 h2 ⊢
  obtain ⟨y, _, e⟩ := il_at (rs := ms) (p := j) (by omega)
  exact ⟨y, e⟩
theorem bits2 (p : Int) : bitsOk 2 p = true := bits_l (by decide)
theorem fdiv4 (i : Int) : binop .fdiv (.int i) (.int 4) = some (.int (i / 4)) := binop_fdiv (by decide) (log_lt (k := 10) (by decide))
theorem min_ok (i j : Int) : biD .min2 [.int i, .int j] = some (.int (if j < i then j else i)) := rfl
theorem int_ok (i : Int) : biD .int [.int i] = some (.int i) := rfl
theorem mx1 (x : Int) : 1 ≤ mx 1 x := by unfold mx; split <;> omega
theorem pow_two (k : Nat) : 1 ≤ 2 ^ k := Nat.one_le_two_pow
theorem kid {p a b : Nat} (h : (p + 1) * 2 ^ (max a b + 1) ≤ 32) : (2 * p + 1) * 2 ^ a ≤ 32 ∧ (2 * p + 2) * 2 ^ a ≤ 32 ∧ (2 * p + 1) * 2 ^ b ≤ 32 ∧ (2 * p + 2) * 2 ^ b ≤ 32 := by
  have e : (p + 1) * 2 ^ (max a b + 1) = (2 * p + 2) * 2 ^ (max a b) := by
    rw [Nat.pow_succ, show 2 * p + 2 = (p + 1) * 2 by omega, Nat.mul_assoc, Nat.mul_comm (2 ^ max a b) 2]
  rw [e] at h
  have ha : 2 ^ a ≤ 2 ^ (max a b) := Nat.pow_le_pow_right (by decide) (Nat.le_max_left _ _)
  have hb : 2 ^ b ≤ 2 ^ (max a b) := Nat.pow_le_pow_right (by decide) (Nat.le_max_right _ _)
  have m : ∀ {x y u v : Nat}, x ≤ y → u ≤ v → y * v ≤ 32 → x * u ≤ 32 := fun h1 h2 h3 => Nat.le_trans (Nat.mul_le_mul h1 h2) h3
  exact ⟨m (by omega) ha h, m (by omega) ha h, m (by omega) hb h, m (by omega) hb h⟩
theorem small {p k : Nat} (h : (p + 1) * 2 ^ k ≤ 32) : p < 32 := by
  have := pow_two k
  have : (p + 1) * 1 ≤ (p + 1) * 2 ^ k := Nat.mul_le_mul_left _ this
  omega
theorem kind_ok {r1 r2 : List Int} {most : Int} (h1 : r1.length = 32) (h2 : r2.length = 32) (hm : 1 ≤ most) : ∀ (e : Nat) (p n : Nat), (p + 1) * 2 ^ e ≤ 32 → e < n →
    ∃ k a, Ps a ∧ dk a ≤ e ∧ callF Tbl W n 6 [il r1, il r2, .int p, .int e, .int most] sto = .ok k a.d sto := by
  have leaf : ∀ (e p n : Nat), p < 32 → (e = 0 ∨ ∀ x, r1[p]? = some x → ¬ x % 4 > 0) → ∃ k a, Ps a ∧ dk a ≤ e ∧ callF Tbl W (n + 1) 6 [il r1, il r2, .int p, .int e, .int most] sto = .ok k a.d sto := by
    intro e p n hp hc
    obtain ⟨x, hx, ex⟩ := il_at (rs := r1) (p := p) (by omega)
    obtain ⟨y, hy, ey⟩ := il_at (rs := r2) (p := p) (by omega)
    have hmod := Int.emod_nonneg y (show most ≠ 0 by omega)
    refine ⟨0, .leaf (1 + y % most), by simp only [Ps]; omega, by simp [dk], ?_⟩
    rw [callF_eq (fd := ⟨5, 6, b6⟩) rfl rfl (by decide)]
    have hm0 : 0 < most := by omega
    rcases hc with rfl | hc
    · simp [b6, Kd.d, evalSs, evalS, evalT, evalE, evalEs, Out.bind, Out.fl, EV.d, EV.free, EV.fit, BT.fit, lift, liftB, cmpop, truth, assign, optFl, Fl.call, isD_nn, isD_bb, isN, scal_if, LIM, ey, int_ok, binop_mod hm0, binop_add]
    · have hx4 := hc x hx
      by_cases he : e = 0
      · subst he
        simp [b6, Kd.d, evalSs, evalS, evalT, evalE, evalEs, Out.bind, Out.fl, EV.d, EV.free, EV.fit, BT.fit, lift, liftB, cmpop, truth, assign, optFl, Fl.call, isD_nn, isD_bb, isN, scal_if, LIM, ey, int_ok, binop_mod hm0, binop_add]
      · have he : 0 < e := by omega
        have hb4 : binop .mod (.int x) (.int 4) = some (.int (x % 4)) := binop_mod (by decide)
        simp [b6, Kd.d, evalSs, evalS, evalT, evalE, evalEs, Out.bind, Out.fl, EV.d, EV.free, EV.fit, BT.fit, lift, liftB, cmpop, truth, assign, optFl, Fl.call, isD_nn, isD_bb, isN, scal_if, LIM, ex, ey, int_ok, hb4, binop_mod hm0, binop_add, hx4, he]
  intro e
  induction e with
  | zero =>
    intro p n hp hn
    obtain ⟨m, rfl⟩ : ∃ m, n = m + 1 := ⟨n - 1, by omega⟩
    exact leaf 0 p m (small hp) (.inl rfl)
  | succ e ih =>
    intro p n hp hn
    obtain ⟨m, rfl⟩ : ∃ m, n = m + 1 := ⟨n - 1, by omega⟩
    obtain ⟨x, hx, ex⟩ := il_at (rs := r1) (p := p) (by have := small hp; omega)
    by_cases c : x % 4 > 0
    · have hk := kid (a := e) (b := e) (by rw [Nat.max_self]; exact hp)
      obtain ⟨k0, a, pa, da, g0⟩ := ih (2 * p) m hk.1 (by omega)
      obtain ⟨k1, b, pb, db, g1⟩ := ih (2 * p + 1) m hk.2.1 (by omega)
      have e1 : ((2 * p : Nat) : Int) = 2 * (p : Int) := by omega
      have e2 : ((2 * p + 1 : Nat) : Int) = 2 * (p : Int) + 1 := by omega
      have e3 : ((e + 1 : Nat) : Int) - 1 = (e : Int) := by omega
      rw [e1] at g0
      rw [e2] at g1
      refine ⟨1, .pair a b, ⟨pa, pb⟩, by simp only [dk]; omega, ?_⟩
      rw [callF_eq (fd := ⟨5, 6, b6⟩) rfl rfl (by decide)]
      have he : (0 : Int) < ((e + 1 : Nat) : Int) := by omega
      have hb4 : binop .mod (.int x) (.int 4) = some (.int (x % 4)) := binop_mod (by decide)
      have hb2 : ∀ q : Int, binop .mul (.int 2) (.int q) = some (.int (2 * q)) := fun q => binop_mul (bits2 q)
      have hs : binop .sub (.int ((e + 1 : Nat) : Int)) (.int 1) = some (.int (e : Int)) := by rw [binop_sub, e3]
      simp [b6, Kd.d, evalSs, evalS, evalT, evalE, evalEs, Out.bind, Out.fl, EV.d, EV.free, EV.fit, BT.fit, lift, liftB, cmpop, truth, assign, optFl, Fl.call, isD_nn, isD_bb, isN, scal_if, LIM, ex, int_ok, hb4, c, -Int.natCast_add, -Int.natCast_succ, he, hb2, hs, binop_add, g0, g1]
    · exact leaf (e + 1) p m (small hp) (.inr fun z hz => by rw [hx] at hz; cases hz; exact c)
theorem near_ok {rs ms : List Int} (h1 : rs.length = 32) (hm : ms ≠ []) : ∀ (a : Kd) (p n : Nat), (p + 1) * 2 ^ dk a ≤ 32 → dk a < n →
    ∃ k b, Ps b ∧ dk b = dk a ∧ callF Tbl W n 7 [a.d, il rs, .int p, il ms] sto = .ok k b.d sto := by
  intro a
  induction a with
  | leaf i =>
    intro p n hp hn
    obtain ⟨m, rfl⟩ : ∃ m, n = m + 1 := ⟨n - 1, by omega⟩
    obtain ⟨x, hx, ex⟩ := il_at (rs := rs) (p := p) (by have := small hp; omega)
    obtain ⟨y, ey⟩ := il_mod hm x
    have hl : (0 : Int) < (ms.length : Int) := by have := List.length_pos_iff.mpr hm; omega
    refine ⟨0, .leaf (mx 1 (if i + y < 999 then i + y else 999)), mx1 _, rfl, ?_⟩
    rw [callF_eq (fd := ⟨4, 5, b7⟩) rfl rfl (by decide)]
    have hlen : biD .len [il ms] = some (.int (ms.length : Int)) := by simp [biD]
    simp [b7, Kd.d, evalSs, evalS, evalT, evalE, evalEs, Out.bind, Out.fl, EV.d, EV.free, EV.fit, BT.fit, lift, liftB, cmpop, truth, assign, optFl, Fl.call, isD_nn, isD_bb, isN, scal_if, LIM, isiD, ex, ey, int_ok, hlen, binop_mod hl, binop_add, min_ok, max_ok]
  | pair a0 a1 ih0 ih1 =>
    intro p n hp hn
    obtain ⟨m, rfl⟩ : ∃ m, n = m + 1 := ⟨n - 1, by omega⟩
    simp only [dk] at hp hn
    have hk := kid hp
    obtain ⟨k0, a, pa, da, g0⟩ := ih0 (2 * p) m hk.1 (by omega)
    obtain ⟨k1, b, pb, db, g1⟩ := ih1 (2 * p + 1) m hk.2.2.2 (by omega)
    have e1 : ((2 * p : Nat) : Int) = 2 * (p : Int) := by omega
    have e2 : ((2 * p + 1 : Nat) : Int) = 2 * (p : Int) + 1 := by omega
    rw [e1] at g0
    rw [e2] at g1
    have hb2 : ∀ q : Int, binop .mul (.int 2) (.int q) = some (.int (2 * q)) := fun q => binop_mul (bits2 q)
    refine ⟨1, .pair a b, ⟨pa, pb⟩, by simp only [dk]; omega, ?_⟩
    rw [callF_eq (fd := ⟨4, 5, b7⟩) rfl rfl (by decide)]
    simp [b7, Kd.d, evalSs, evalS, evalT, evalE, evalEs, Out.bind, Out.fl, EV.d, EV.free, EV.fit, BT.fit, lift, liftB, cmpop, truth, assign, optFl, Fl.call, isD_nn, isD_bb, isN, scal_if, LIM, isiD, hb2, binop_add, g0, g1]
theorem exch_ok {rs : List Int} (h1 : rs.length = 32) : ∀ (a : Kd) (l n : Nat), dk a + l ≤ 4 → dk a < n →
    ∃ k b, (Gk a → Ps b) ∧ dk b + l ≤ 4 ∧ callF Tbl W n 8 [a.d, il rs, .int l] sto = .ok k b.d sto := by
  intro a
  obtain ⟨z, hz, ez⟩ := il_at (rs := rs) (p := 4) (by omega)
  have ez : idxD (il rs) (.int 4) = some (.int z) := ez
  have hz5 := Int.emod_nonneg z (show (5 : Int) ≠ 0 by decide)
  have hb5 : binop .mod (.int z) (.int 5) = some (.int (z % 5)) := binop_mod (by decide)
  induction a with
  | leaf i =>
    intro l n hl hn
    obtain ⟨m, rfl⟩ : ∃ m, n = m + 1 := ⟨n - 1, by omega⟩
    by_cases c : (l : Int) < 4
    · refine ⟨1, .pair (.leaf (mx 1 i)) (.leaf (1 + z % 5)), fun _ => ⟨mx1 _, by simp only [Ps]; omega⟩, by simp only [dk]; omega, ?_⟩
      rw [callF_eq (fd := ⟨3, 5, b8⟩) rfl rfl (by decide)]
      simp [b8, Kd.d, evalSs, evalS, evalT, evalE, evalEs, Out.bind, Out.fl, EV.d, EV.free, EV.fit, BT.fit, lift, liftB, cmpop, truth, assign, optFl, Fl.call, isD_nn, isD_bb, isN, scal_if, LIM, isiD, ez, int_ok, hb5, binop_add, max_ok, c]
    · refine ⟨0, .leaf (mx 1 (i - 1)), fun _ => mx1 _, by simp only [dk] at hl ⊢; omega, ?_⟩
      rw [callF_eq (fd := ⟨3, 5, b8⟩) rfl rfl (by decide)]
      simp [b8, Kd.d, evalSs, evalS, evalT, evalE, evalEs, Out.bind, Out.fl, EV.d, EV.free, EV.fit, BT.fit, lift, liftB, cmpop, truth, assign, optFl, Fl.call, isD_nn, isD_bb, isN, scal_if, LIM, isiD, binop_sub, max_ok, c]
  | pair a0 a1 ih0 ih1 =>
    intro l n hl hn
    obtain ⟨m, rfl⟩ : ∃ m, n = m + 1 := ⟨n - 1, by omega⟩
    simp only [dk] at hl hn
    obtain ⟨x, hx, ex⟩ := il_at (rs := rs) (p := l) (by omega)
    have hb4 : binop .mod (.int x) (.int 4) = some (.int (x % 4)) := binop_mod (by decide)
    have gps : Gk (.pair a0 a1) → Ps a0 ∧ Ps a1 := fun g => by
      rcases g with g | g
      · cases g
      · exact g
    by_cases c : x % 4 = 0
    · refine ⟨0, .leaf (1 + z % 5), fun _ => by simp only [Ps]; omega, by simp only [dk]; omega, ?_⟩
      rw [callF_eq (fd := ⟨3, 5, b8⟩) rfl rfl (by decide)]
      simp [b8, Kd.d, evalSs, evalS, evalT, evalE, evalEs, Out.bind, Out.fl, EV.d, EV.free, EV.fit, BT.fit, lift, liftB, cmpop, truth, assign, optFl, Fl.call, isD_nn, isD_bb, isN, scal_if, LIM, isiD, ex, ez, int_ok, hb4, hb5, binop_add, c]
    · have e1 : ((l + 1 : Nat) : Int) = (l : Int) + 1 := by omega
      have hb2 : binop .mod (.int (x / 4)) (.int 2) = some (.int (x / 4 % 2)) := binop_mod (by decide)
      have w0 := Int.emod_nonneg (x / 4) (show (2 : Int) ≠ 0 by decide)
      have w1 := Int.emod_lt_of_pos (x / 4) (show (0 : Int) < 2 by decide)
      by_cases cw : x / 4 % 2 = 0
      · obtain ⟨k, b, pb, db, g⟩ := ih0 (l + 1) m (by omega) (by omega)
        rw [e1] at g
        refine ⟨1, .pair b a1, fun q => ⟨pb (.inr (gps q).1), (gps q).2⟩, by simp only [dk]; omega, ?_⟩
        rw [callF_eq (fd := ⟨3, 5, b8⟩) rfl rfl (by decide)]
        simp [b8, Kd.d, evalSs, evalS, evalT, evalE, evalEs, Out.bind, Out.fl, EV.d, EV.free, EV.fit, BT.fit, lift, liftB, cmpop, truth, assign, optFl, Fl.call, isD_nn, isD_bb, isN, scal_if, LIM, isiD, ex, int_ok, hb4, fdiv4, hb2, binop_add, c, cw, g, scal_if]
      · have cw : x / 4 % 2 = 1 := by omega
        obtain ⟨k, b, pb, db, g⟩ := ih1 (l + 1) m (by omega) (by omega)
        rw [e1] at g
        refine ⟨1, .pair a0 b, fun q => ⟨(gps q).1, pb (.inr (gps q).2)⟩, by simp only [dk]; omega, ?_⟩
        rw [callF_eq (fd := ⟨3, 5, b8⟩) rfl rfl (by decide)]
        simp [b8, Kd.d, evalSs, evalS, evalT, evalE, evalEs, Out.bind, Out.fl, EV.d, EV.free, EV.fit, BT.fit, lift, liftB, cmpop, truth, assign, optFl, Fl.call, isD_nn, isD_bb, isN, scal_if, LIM, isiD, ex, int_ok, hb4, fdiv4, hb2, binop_add, c, cw, g, scal_if]
/-- alike in shape -/
def sh : Kd → Kd → Prop
  | .leaf _, .leaf _ => True
  | .pair a b, .pair c e => sh a c ∧ sh b e
  | _, _ => False
theorem sh_dk : ∀ (a b : Kd), sh a b → dk b = dk a
  | .leaf _, .leaf _, _ => rfl
  | .pair a b, .pair c e, h => by simp only [dk]; rw [sh_dk a c h.1, sh_dk b e h.2]
  | .leaf _, .pair _ _, h => h.elim
  | .pair _ _, .leaf _, h => h.elim
theorem sh_top : ∀ a : Kd, sh a (top a)
  | .leaf _ => trivial
  | .pair a b => ⟨sh_top a, sh_top b⟩
theorem value_ok {rs : List Int} (h1 : rs.length = 32) : ∀ (a : Kd) (p n : Nat), (p + 1) * 2 ^ dk a ≤ 32 → dk a < n →
    ∃ k b, sh a b ∧ callF Tbl W n 13 [a.d, il rs, .int p] sto = .ok k b.d sto := by
  intro a
  induction a with
  | leaf i =>
    intro p n hp hn
    obtain ⟨m, rfl⟩ : ∃ m, n = m + 1 := ⟨n - 1, by omega⟩
    obtain ⟨x, hx, ex⟩ := il_at (rs := rs) (p := p) (by have := small hp; omega)
    have hl : 0 < mx 1 i := mx1 i
    refine ⟨0, .leaf (x % mx 1 i), trivial, ?_⟩
    rw [callF_eq (fd := ⟨3, 3, b13⟩) rfl rfl (by decide)]
    simp [b13, Kd.d, evalSs, evalS, evalT, evalE, evalEs, Out.bind, Out.fl, EV.d, EV.free, EV.fit, BT.fit, lift, liftB, cmpop, truth, assign, optFl, Fl.call, isD_nn, isD_bb, isN, scal_if, LIM, isiD, ex, int_ok, binop_mod hl, max_ok]
  | pair a0 a1 ih0 ih1 =>
    intro p n hp hn
    obtain ⟨m, rfl⟩ : ∃ m, n = m + 1 := ⟨n - 1, by omega⟩
    simp only [dk] at hp hn
    have hk := kid hp
    obtain ⟨k0, a, sa, g0⟩ := ih0 (2 * p) m hk.1 (by omega)
    obtain ⟨k1, b, sb, g1⟩ := ih1 (2 * p + 1) m hk.2.2.2 (by omega)
    have e1 : ((2 * p : Nat) : Int) = 2 * (p : Int) := by omega
    have e2 : ((2 * p + 1 : Nat) : Int) = 2 * (p : Int) + 1 := by omega
    rw [e1] at g0
    rw [e2] at g1
    have hb2 : ∀ q : Int, binop .mul (.int 2) (.int q) = some (.int (2 * q)) := fun q => binop_mul (bits2 q)
    refine ⟨1, .pair a b, ⟨sa, sb⟩, ?_⟩
    rw [callF_eq (fd := ⟨3, 3, b13⟩) rfl rfl (by decide)]
    simp [b13, Kd.d, evalSs, evalS, evalT, evalE, evalEs, Out.bind, Out.fl, EV.d, EV.free, EV.fit, BT.fit, lift, liftB, cmpop, truth, assign, optFl, Fl.call, isD_nn, isD_bb, isN, scal_if, LIM, isiD, hb2, binop_add, g0, g1]
theorem beyond_ok {rs : List Int} (h1 : rs.length = 32) : ∀ (a v : Kd) (l n : Nat), sh a v → dk a + l ≤ 4 → dk a < n →
    ∃ k b, dk b ≤ dk a ∧ callF Tbl W n 14 [a.d, v.d, il rs, .int l] sto = .ok k b.d sto := by
  intro a
  induction a with
  | leaf i =>
    intro v l n hv hl hn
    obtain ⟨m, rfl⟩ : ∃ m, n = m + 1 := ⟨n - 1, by omega⟩
    refine ⟨0, .leaf i, Nat.le_refl _, ?_⟩
    rw [callF_eq (fd := ⟨4, 6, b14⟩) rfl rfl (by decide)]
    simp [b14, Kd.d, evalSs, evalS, evalT, evalE, evalEs, Out.bind, Out.fl, EV.d, EV.free, EV.fit, BT.fit, lift, liftB, cmpop, truth, assign, optFl, Fl.call, isD_nn, isD_bb, isN, scal_if, LIM, isiD]
  | pair a0 a1 ih0 ih1 =>
    intro v l n hv hl hn
    obtain ⟨m, rfl⟩ : ∃ m, n = m + 1 := ⟨n - 1, by omega⟩
    cases v with
    | leaf _ => exact hv.elim
    | pair v0 v1 =>
      simp only [dk] at hl hn
      obtain ⟨x, hx, ex⟩ := il_at (rs := rs) (p := l) (by omega)
      have e1 : ((l + 1 : Nat) : Int) = (l : Int) + 1 := by omega
      have hb2 : binop .mod (.int x) (.int 2) = some (.int (x % 2)) := binop_mod (by decide)
      have s0 := sh_dk _ _ hv.1
      have s1 := sh_dk _ _ hv.2
      by_cases cw : x % 2 = 0
      · obtain ⟨k, b, db, g⟩ := ih0 v0 (l + 1) m hv.1 (by omega) (by omega)
        rw [e1] at g
        refine ⟨1, .pair b v1, by simp only [dk]; omega, ?_⟩
        rw [callF_eq (fd := ⟨4, 6, b14⟩) rfl rfl (by decide)]
        simp [b14, Kd.d, evalSs, evalS, evalT, evalE, evalEs, Out.bind, Out.fl, EV.d, EV.free, EV.fit, BT.fit, lift, liftB, cmpop, truth, assign, optFl, Fl.call, isD_nn, isD_bb, isN, scal_if, LIM, isiD, ex, int_ok, hb2, binop_add, cw, g, scal_if]
      · have cw : x % 2 = 1 := by omega
        obtain ⟨k, b, db, g⟩ := ih1 v1 (l + 1) m hv.2 (by omega) (by omega)
        rw [e1] at g
        refine ⟨1, .pair v0 b, by simp only [dk]; omega, ?_⟩
        rw [callF_eq (fd := ⟨4, 6, b14⟩) rfl rfl (by decide)]
        simp [b14, Kd.d, evalSs, evalS, evalT, evalE, evalEs, Out.bind, Out.fl, EV.d, EV.free, EV.fit, BT.fit, lift, liftB, cmpop, truth, assign, optFl, Fl.call, isD_nn, isD_bb, isN, scal_if, LIM, isiD, ex, int_ok, hb2, binop_add, cw, g, scal_if]
end K05
end

section
set_option pp.maxSteps 700
namespace BT
theorem ev_ex {C : Nat → List D → Sto → CR} {W : Nat} {a : CS} {r : CSs} {s : S} {Q : Fl → Prop} (P : S → Prop) (h : ∃ s', P s' ∧ evalS C W a s = .next s') (k : ∀ s', P s' → Q (evalSs C W r s')) : Q (evalSs C W (.cons a r) s) := by
  obtain ⟨s', p, e⟩ := h
  rw [ev_next e]
  exact k s' p
theorem ev_one {C : Nat → List D → Sto → CR} {W : Nat} {a : CS} {r : CSs} {s : S} {Q : Fl → Prop} (s' : S) (h : evalS C W a s = .next s') (k : Q (evalSs C W r s')) : Q (evalSs C W (.cons a r) s) := by
  rw [ev_next h]
  exact k
theorem forL_inv {step : D → S → Fl} {I : S → Prop} : ∀ (ds : List D), (∀ d ∈ ds, ∀ s, I s → ∃ s', step d s = .next s' ∧ I s') → ∀ s, I s → ∃ s', forL step ds s = .next s' ∧ I s'
  | [], _, s, i => ⟨s, rfl, i⟩
  | d :: ds, h, s, i => by
    obtain ⟨s1, e, i1⟩ := h d (by simp) s i
    rw [forL_next e]
    exact forL_inv ds (fun x m => h x (by simp [m])) s1 i1
theorem ev_for {C : Nat → List D → Sto → CR} {W : Nat} {t : Tg} {it : CI} {b : CSs} {s s1 : S} {ds : List D} {F : Fl} (h : evalI C it s = .ok ds s1)
    (k : forL (fun d s2 => match assign t 0 d s2 with
      | some s3 => evalSs C W b s3
      | none => .err) ds s1 = F) : evalS C W (.for t it b) s = F := by
  rw [evalS, h]
  exact k
end BT
namespace K05
open BT
theorem gk_leaf {i : Int} (h : 0 ≤ i) : Gk (.leaf i) := by
  by_cases h0 : i = 0
  · exact .inl (by rw [h0])
  · exact .inr (by simp only [Ps]; omega)
abbrev t15 (ns : List Int) (x1 x2 x3 x4 x5 x6 x7 : Option (Nat × D)) : S := ⟨[some (0, il ns), x1, x2, x3, x4, x5, x6, x7], []⟩
theorem kinds_ok {ns : List Int} (hn : ns.length ≤ 63) (q : Nat) : ∃ ks : List Kd, ks.length = 5 ∧ (∀ a ∈ ks, Gk a ∧ dk a ≤ 4) ∧ callF Tbl W (q + 40) 15 [il ns] [] = .ok 1 (.lst (ks.map Kd.d)) [] := by
  have row : ∀ (k c : Nat), c ≤ 900 → ∃ rs : List Int, rs.length = c ∧ (∀ r ∈ rs, 0 ≤ r ∧ r < 1000) ∧ callF Tbl W (q + 39) 3 [il ns, .int k, .int c] [] = .ok 1 (il rs) [] := fun k c hc => row_ok (T := Tbl) (W := W) (n := q + 38) (sto := []) (f := 3) rfl hn hc
  obtain ⟨r, lr, br, gr⟩ := row 0 9 (by decide)
  obtain ⟨w1, l1, _, g1⟩ := row 1 32 (by decide)
  obtain ⟨w2, l2, _, g2⟩ := row 2 32 (by decide)
  obtain ⟨w3, l3, _, g3⟩ := row 3 32 (by decide)
  obtain ⟨w4, l4, _, g4⟩ := row 4 32 (by decide)
  obtain ⟨w5, l5, _, g5⟩ := row 5 32 (by decide)
  obtain ⟨w6, l6, _, g6⟩ := row 6 32 (by decide)
  obtain ⟨w7, l7, _, g7⟩ := row 7 32 (by decide)
  have gr : callF Tbl W (q + 39) 3 [il ns, .int 0, .int 9] [] = .ok 1 (il r) [] := gr
  have g1 : callF Tbl W (q + 39) 3 [il ns, .int 1, .int 32] [] = .ok 1 (il w1) [] := g1
  have g2 : callF Tbl W (q + 39) 3 [il ns, .int 2, .int 32] [] = .ok 1 (il w2) [] := g2
  have g3 : callF Tbl W (q + 39) 3 [il ns, .int 3, .int 32] [] = .ok 1 (il w3) [] := g3
  have g4 : callF Tbl W (q + 39) 3 [il ns, .int 4, .int 32] [] = .ok 1 (il w4) [] := g4
  have g5 : callF Tbl W (q + 39) 3 [il ns, .int 5, .int 32] [] = .ok 1 (il w5) [] := g5
  have g6 : callF Tbl W (q + 39) 3 [il ns, .int 6, .int 32] [] = .ok 1 (il w6) [] := g6
  have g7 : callF Tbl W (q + 39) 3 [il ns, .int 7, .int 32] [] = .ok 1 (il w7) [] := g7
  match r, lr with
  | [r0, r1, r2, r3, r4, r5, r6, r7, r8], _ =>
  have b2 := br r2 (by simp)
  have b5 := br r5 (by simp)
  generalize hR : il [r0, r1, r2, r3, r4, r5, r6, r7, r8] = R at gr
  have j0 : idxD R (.int 0) = some (.int r0) := by rw [← hR] <;> rfl
  have j1 : idxD R (.int 1) = some (.int r1) := by rw [← hR] <;> rfl
  have j2 : idxD R (.int 2) = some (.int r2) := by rw [← hR] <;> rfl
  have j3 : idxD R (.int 3) = some (.int r3) := by rw [← hR] <;> rfl
  have j4 : idxD R (.int 4) = some (.int r4) := by rw [← hR] <;> rfl
  have j5 : idxD R (.int 5) = some (.int r5) := by rw [← hR] <;> rfl
  have j6 : idxD R (.int 6) = some (.int r6) := by rw [← hR] <;> rfl
  clear hR
  have mod : ∀ (i j : Int), 0 < j → binop .mod (.int i) (.int j) = some (.int (i % j)) := fun i j h => binop_mod h
  have m2 := mod r0 2 (by decide)
  have m9 := mod r1 9 (by decide)
  have m6 := mod r3 6 (by decide)
  have m66 := mod r6 6 (by decide)
  have m11 := mod r4 11 (by decide)
  have d11 : binop .fdiv (.int r4) (.int 11) = some (.int (r4 / 11)) := binop_fdiv (by decide) (log_lt (k := 10) (by decide))
  have m3 := mod (r4 / 11) 3 (by decide)
  have kk : ∀ {x y : List Int} {most : Int}, x.length = 32 → y.length = 32 → 1 ≤ most → ∃ k a, Ps a ∧ dk a ≤ 4 ∧ callF Tbl W (q + 39) 6 [il x, il y, .int 1, .int 4, .int most] [] = .ok k a.d [] := fun hx hy hm => kind_ok hx hy hm 4 1 (q + 39) (by decide) (by omega)
  have nn : ∀ {x ms : List Int} {a : Kd}, x.length = 32 → ms ≠ [] → dk a ≤ 4 → ∃ k b, Ps b ∧ dk b ≤ 4 ∧ callF Tbl W (q + 39) 7 [a.d, il x, .int 1, il ms] [] = .ok k b.d [] := fun {x ms a} hx hm ha => by
    have hp : (1 + 1) * 2 ^ dk a ≤ 32 := by
      have : 2 ^ dk a ≤ 2 ^ 4 := Nat.pow_le_pow_right (by decide) ha
      omega
    obtain ⟨k, b, p1, p2, p3⟩ := near_ok (sto := []) hx hm a 1 (q + 39) hp (by omega)
    exact ⟨k, b, p1, by omega, p3⟩
  have xx : ∀ {x : List Int} {a : Kd}, x.length = 32 → dk a ≤ 4 → ∃ k b, (Gk a → Ps b) ∧ dk b ≤ 4 ∧ callF Tbl W (q + 39) 8 [a.d, il x, .int 0] [] = .ok k b.d [] := fun {x a} hx ha => exch_ok (sto := []) hx a 0 (q + 39) (by omega) (by omega)
  let Q : Fl → Prop := fun F => ∃ ks : List Kd, ks.length = 5 ∧ (∀ a ∈ ks, Gk a ∧ dk a ≤ 4) ∧ F = .ret 1 (.lst (ks.map Kd.d)) []
  have key : Q (evalSs (callF Tbl W (q + 39)) W b15 (t15 ns none none none none none none none)) := by
    unfold b15
    refine ev_one (Q := Q) (t15 ns (some (1, R)) none none none none none none) (by simp [evalSs, evalS, evalT, evalE, evalEs, Out.bind, Out.fl, EV.d, EV.free, EV.fit, BT.fit, lift, liftB, cmpop, truth, assign, optFl, Fl.call, isD_nn, isD_bb, isN, scal_if, LIM, gr]) ?_
    refine ev_one (Q := Q) (t15 ns (some (1, R)) (some (0, .int 999)) none none none none none) (by simp [evalSs, evalS, evalT, evalE, evalEs, Out.bind, Out.fl, EV.d, EV.free, EV.fit, BT.fit, lift, liftB, cmpop, truth, assign, optFl, Fl.call, isD_nn, isD_bb, isN, scal_if, LIM]) ?_
    refine ev_ex (Q := Q) (fun s' => ∃ most : Int, 1 ≤ most ∧ s' = t15 ns (some (1, R)) (some (0, .int most)) none none none none none) ?_ ?_
    · by_cases c : r0 % 2 = 0
      · exact ⟨_, ⟨3, by decide, rfl⟩, by simp [evalSs, evalS, evalT, evalE, evalEs, Out.bind, Out.fl, EV.d, EV.free, EV.fit, BT.fit, lift, liftB, cmpop, truth, assign, optFl, Fl.call, isD_nn, isD_bb, isN, scal_if, LIM, j0, m2, c]⟩
      · exact ⟨_, ⟨999, by decide, rfl⟩, by simp [evalSs, evalS, evalT, evalE, evalEs, Out.bind, Out.fl, EV.d, EV.free, EV.fit, BT.fit, lift, liftB, cmpop, truth, assign, optFl, Fl.call, isD_nn, isD_bb, isN, scal_if, LIM, j0, m2, c]⟩
    rintro _ ⟨most, hm, rfl⟩
    obtain ⟨ka, a, pa, da, ga⟩ := kk l1 l2 hm
    refine ev_one (Q := Q) (t15 ns (some (1, R)) (some (0, .int most)) (some (ka, a.d)) none none none none) (by simp [evalSs, evalS, evalT, evalE, evalEs, Out.bind, Out.fl, EV.d, EV.free, EV.fit, BT.fit, lift, liftB, cmpop, truth, assign, optFl, Fl.call, isD_nn, isD_bb, isN, scal_if, LIM, g1, g2, ga]) ?_
    refine ev_ex (Q := Q) (fun s' => ∃ ka a, Gk a ∧ dk a ≤ 4 ∧ s' = t15 ns (some (1, R)) (some (0, .int most)) (some (ka, a.d)) none none none none) ?_ ?_
    · by_cases c : r1 % 9 = 0
      · exact ⟨_, ⟨0, .leaf r2, gk_leaf b2.1, by simp [dk], rfl⟩, by simp [evalSs, evalS, evalT, evalE, evalEs, Out.bind, Out.fl, EV.d, EV.free, EV.fit, BT.fit, lift, liftB, cmpop, truth, assign, optFl, Fl.call, isD_nn, isD_bb, isN, scal_if, LIM, Kd.d, j1, j2, m9, c, int_ok]⟩
      · exact ⟨_, ⟨ka, a, .inr pa, da, rfl⟩, by simp [evalSs, evalS, evalT, evalE, evalEs, Out.bind, Out.fl, EV.d, EV.free, EV.fit, BT.fit, lift, liftB, cmpop, truth, assign, optFl, Fl.call, isD_nn, isD_bb, isN, scal_if, LIM, j1, m9, c]⟩
    clear ga pa da
    rintro _ ⟨ka, a, pa, da, rfl⟩
    refine ev_one (Q := Q) (t15 ns (some (1, R)) (some (0, .int most)) (some (ka, a.d)) (some (1, il w4)) none none none) (by simp [evalSs, evalS, evalT, evalE, evalEs, Out.bind, Out.fl, EV.d, EV.free, EV.fit, BT.fit, lift, liftB, cmpop, truth, assign, optFl, Fl.call, isD_nn, isD_bb, isN, scal_if, LIM, g4]) ?_
    obtain ⟨kb, b, pb, db, gb⟩ := kk l3 l4 hm
    refine ev_one (Q := Q) (t15 ns (some (1, R)) (some (0, .int most)) (some (ka, a.d)) (some (0, il w4)) (some (kb, b.d)) none none) (by simp [evalSs, evalS, evalT, evalE, evalEs, Out.bind, Out.fl, EV.d, EV.free, EV.fit, BT.fit, lift, liftB, cmpop, truth, assign, optFl, Fl.call, isD_nn, isD_bb, isN, scal_if, LIM, g3, gb]) ?_
    refine ev_ex (Q := Q) (fun s' => ∃ k3 k5 b, Gk b ∧ dk b ≤ 4 ∧ s' = t15 ns (some (1, R)) (some (0, .int most)) (some (k3, a.d)) (some (0, il w4)) (some (k5, b.d)) none none) ?_ ?_
    · by_cases c1 : r3 % 6 = 1
      · exact ⟨_, ⟨0, 0, a, pa, da, rfl⟩, by simp [evalSs, evalS, evalT, evalE, evalEs, Out.bind, Out.fl, EV.d, EV.free, EV.fit, BT.fit, lift, liftB, cmpop, truth, assign, optFl, Fl.call, isD_nn, isD_bb, isN, scal_if, LIM, j3, m6, c1]⟩
      by_cases c2 : r3 % 6 = 2
      · obtain ⟨k, z, pz, dz, gz⟩ := nn (x := w4) (ms := [0, 0, 0, 1, 0, -1]) (a := a) l4 (by simp) da
        have gz : callF Tbl W (q + 39) 7 [a.d, il w4, .int 1, .lst [.int 0, .int 0, .int 0, .int 1, .int 0, .int (-1)]] [] = .ok k z.d [] := gz
        exact ⟨_, ⟨0, k, z, .inr pz, dz, rfl⟩, by simp [evalSs, evalS, evalT, evalE, evalEs, Out.bind, Out.fl, EV.d, EV.free, EV.fit, BT.fit, lift, liftB, cmpop, truth, assign, optFl, Fl.call, isD_nn, isD_bb, isN, scal_if, LIM, j3, m6, c2, gz]⟩
      by_cases c3 : r3 % 6 = 3
      · obtain ⟨k, z, pz, dz, gz⟩ := nn (x := w4) (ms := [0, 0, 0, 1, 0, -1]) (a := a) l4 (by simp) da
        have gz : callF Tbl W (q + 39) 7 [a.d, il w4, .int 1, .lst [.int 0, .int 0, .int 0, .int 1, .int 0, .int (-1)]] [] = .ok k z.d [] := gz
        exact ⟨_, ⟨0, k, z, .inr pz, dz, rfl⟩, by simp [evalSs, evalS, evalT, evalE, evalEs, Out.bind, Out.fl, EV.d, EV.free, EV.fit, BT.fit, lift, liftB, cmpop, truth, assign, optFl, Fl.call, isD_nn, isD_bb, isN, scal_if, LIM, j3, m6, c3, gz]⟩
      by_cases c4 : r3 % 6 = 4
      · obtain ⟨k, z, pz, dz, gz⟩ := xx (x := w4) (a := a) l4 da
        exact ⟨_, ⟨0, k, z, .inr (pz pa), dz, rfl⟩, by simp [evalSs, evalS, evalT, evalE, evalEs, Out.bind, Out.fl, EV.d, EV.free, EV.fit, BT.fit, lift, liftB, cmpop, truth, assign, optFl, Fl.call, isD_nn, isD_bb, isN, scal_if, LIM, j3, m6, c4, gz]⟩
      by_cases c5 : r3 % 6 = 5
      · obtain ⟨k0, y, py, dy, gy⟩ := nn (x := w4) (ms := [0, 1, -1]) (a := a) l4 (by simp) da
        have gy : callF Tbl W (q + 39) 7 [a.d, il w4, .int 1, .lst [.int 0, .int 1, .int (-1)]] [] = .ok k0 y.d [] := gy
        obtain ⟨k, z, pz, dz, gz⟩ := xx (x := w4) (a := y) l4 dy
        exact ⟨_, ⟨0, k, z, .inr (pz (.inr py)), dz, rfl⟩, by simp [evalSs, evalS, evalT, evalE, evalEs, Out.bind, Out.fl, EV.d, EV.free, EV.fit, BT.fit, lift, liftB, cmpop, truth, assign, optFl, Fl.call, isD_nn, isD_bb, isN, scal_if, LIM, j3, m6, c5, gy, gz]⟩
      · exact ⟨_, ⟨ka, kb, b, .inr pb, db, rfl⟩, by simp [evalSs, evalS, evalT, evalE, evalEs, Out.bind, Out.fl, EV.d, EV.free, EV.fit, BT.fit, lift, liftB, cmpop, truth, assign, optFl, Fl.call, isD_nn, isD_bb, isN, scal_if, LIM, j3, m6, c1, c2, c3, c4, c5]⟩
    clear gb pb db
    rintro _ ⟨k3, kb, b, pb, db, rfl⟩
    refine ev_ex (Q := Q) (fun s' => ∃ k5 b, Gk b ∧ dk b ≤ 4 ∧ s' = t15 ns (some (1, R)) (some (0, .int most)) (some (k3, a.d)) (some (0, il w4)) (some (k5, b.d)) none none) ?_ ?_
    · by_cases c : r4 % 11 = 0
      · refine ⟨_, ⟨0, .leaf (r5 * b2i (decide (0 < r4 / 11 % 3))), gk_leaf ?_, by simp [dk], rfl⟩, ?_⟩
        · refine Int.mul_nonneg b5.1 ?_
          unfold b2i; split <;> decide
        · have hb : bitsOk r5 (b2i (decide (0 < r4 / 11 % 3))) = true := bits_r (by unfold b2i; split <;> decide)
          have hi : ∀ z : Bool, biD .int [.bl z] = some (.int (b2i z)) := fun z => rfl
          simp [evalSs, evalS, evalT, evalE, evalEs, Out.bind, Out.fl, EV.d, EV.free, EV.fit, BT.fit, lift, liftB, cmpop, truth, assign, optFl, Fl.call, isD_nn, isD_bb, isN, scal_if, LIM, Kd.d, j4, j5, m11, d11, m3, c, int_ok, hi, binop_mul hb]
      · exact ⟨_, ⟨kb, b, pb, db, rfl⟩, by simp [evalSs, evalS, evalT, evalE, evalEs, Out.bind, Out.fl, EV.d, EV.free, EV.fit, BT.fit, lift, liftB, cmpop, truth, assign, optFl, Fl.call, isD_nn, isD_bb, isN, scal_if, LIM, j4, m11, c]⟩
    rintro _ ⟨kb, b, pb, db, rfl⟩
    refine ev_one (Q := Q) (t15 ns (some (1, R)) (some (0, .int most)) (some (k3, a.d)) (some (1, il w6)) (some (kb, b.d)) none none) (by simp [evalSs, evalS, evalT, evalE, evalEs, Out.bind, Out.fl, EV.d, EV.free, EV.fit, BT.fit, lift, liftB, cmpop, truth, assign, optFl, Fl.call, isD_nn, isD_bb, isN, scal_if, LIM, g6]) ?_
    obtain ⟨kc, c, pc, dc, gc⟩ := kk l5 l6 hm
    refine ev_one (Q := Q) (t15 ns (some (1, R)) (some (0, .int most)) (some (k3, a.d)) (some (0, il w6)) (some (kb, b.d)) (some (kc, c.d)) none) (by simp [evalSs, evalS, evalT, evalE, evalEs, Out.bind, Out.fl, EV.d, EV.free, EV.fit, BT.fit, lift, liftB, cmpop, truth, assign, optFl, Fl.call, isD_nn, isD_bb, isN, scal_if, LIM, g5, gc]) ?_
    obtain ⟨kj, gj⟩ := join_ok (f := 9) (sto := []) rfl a b (q + 39) (by omega) (by omega) (by omega)
    refine ev_one (Q := Q) (t15 ns (some (1, R)) (some (0, .int most)) (some (0, a.d)) (some (0, il w6)) (some (0, b.d)) (some (kc, c.d)) (some (kj, od (join a b)))) (by simp [evalSs, evalS, evalT, evalE, evalEs, Out.bind, Out.fl, EV.d, EV.free, EV.fit, BT.fit, lift, liftB, cmpop, truth, assign, optFl, Fl.call, isD_nn, isD_bb, isN, scal_if, LIM, gj]) ?_
    refine ev_ex (Q := Q) (fun s' => ∃ k7 e, Gk e ∧ dk e ≤ 4 ∧ s' = t15 ns (some (1, R)) (some (0, .int most)) (some (0, a.d)) (some (0, il w6)) (some (0, b.d)) (some (kc, c.d)) (some (k7, e.d))) ?_ ?_
    · cases hj : join a b with
      | none => exact ⟨_, ⟨0, a, pa, da, rfl⟩, by simp [evalSs, evalS, evalT, evalE, evalEs, Out.bind, Out.fl, EV.d, EV.free, EV.fit, BT.fit, lift, liftB, cmpop, truth, assign, optFl, Fl.call, isD_nn, isD_bb, isN, scal_if, LIM, od]⟩
      | some e => exact ⟨_, ⟨kj, e, gk_join pa pb hj, by have := dk_join a b e hj; omega, rfl⟩, by simp [evalSs, evalS, evalT, evalE, evalEs, Out.bind, Out.fl, EV.d, EV.free, EV.fit, BT.fit, lift, liftB, cmpop, truth, assign, optFl, Fl.call, isD_nn, isD_bb, isN, scal_if, LIM, od]⟩
    rintro _ ⟨k7, e, pe, de, rfl⟩
    refine ev_ex (Q := Q) (fun s' => ∃ k6 k7 c, Gk c ∧ dk c ≤ 4 ∧ s' = t15 ns (some (1, R)) (some (0, .int most)) (some (0, a.d)) (some (0, il w6)) (some (0, b.d)) (some (k6, c.d)) (some (k7, e.d))) ?_ ?_
    · by_cases c1 : r6 % 6 = 1
      · obtain ⟨k, z, pz, dz, gz⟩ := nn (x := w6) (ms := [0, 0, 1]) (a := e) l6 (by simp) de
        have gz : callF Tbl W (q + 39) 7 [e.d, il w6, .int 1, .lst [.int 0, .int 0, .int 1]] [] = .ok k z.d [] := gz
        exact ⟨_, ⟨k, 0, z, .inr pz, dz, rfl⟩, by simp [evalSs, evalS, evalT, evalE, evalEs, Out.bind, Out.fl, EV.d, EV.free, EV.fit, BT.fit, lift, liftB, cmpop, truth, assign, optFl, Fl.call, isD_nn, isD_bb, isN, scal_if, LIM, j6, m66, c1, gz]⟩
      by_cases c2 : r6 % 6 = 2
      · obtain ⟨k, z, pz, dz, gz⟩ := nn (x := w6) (ms := [0, 0, 1]) (a := e) l6 (by simp) de
        have gz : callF Tbl W (q + 39) 7 [e.d, il w6, .int 1, .lst [.int 0, .int 0, .int 1]] [] = .ok k z.d [] := gz
        exact ⟨_, ⟨k, 0, z, .inr pz, dz, rfl⟩, by simp [evalSs, evalS, evalT, evalE, evalEs, Out.bind, Out.fl, EV.d, EV.free, EV.fit, BT.fit, lift, liftB, cmpop, truth, assign, optFl, Fl.call, isD_nn, isD_bb, isN, scal_if, LIM, j6, m66, c2, gz]⟩
      by_cases c3 : r6 % 6 = 3
      · obtain ⟨k, z, pz, dz, gz⟩ := nn (x := w6) (ms := [0, 0, 0, 0, 0, 0, 0, -1]) (a := e) l6 (by simp) de
        have gz : callF Tbl W (q + 39) 7 [e.d, il w6, .int 1, .lst [.int 0, .int 0, .int 0, .int 0, .int 0, .int 0, .int 0, .int (-1)]] [] = .ok k z.d [] := gz
        exact ⟨_, ⟨k, 0, z, .inr pz, dz, rfl⟩, by simp [evalSs, evalS, evalT, evalE, evalEs, Out.bind, Out.fl, EV.d, EV.free, EV.fit, BT.fit, lift, liftB, cmpop, truth, assign, optFl, Fl.call, isD_nn, isD_bb, isN, scal_if, LIM, j6, m66, c3, gz]⟩
      by_cases c4 : r6 % 6 = 4
      · obtain ⟨k, z, pz, dz, gz⟩ := xx (x := w6) (a := e) l6 de
        exact ⟨_, ⟨k, 0, z, .inr (pz pe), dz, rfl⟩, by simp [evalSs, evalS, evalT, evalE, evalEs, Out.bind, Out.fl, EV.d, EV.free, EV.fit, BT.fit, lift, liftB, cmpop, truth, assign, optFl, Fl.call, isD_nn, isD_bb, isN, scal_if, LIM, j6, m66, c4, gz]⟩
      by_cases c5 : r6 % 6 = 5
      · obtain ⟨k, z, pz, dz, gz⟩ := nn (x := w6) (ms := [0, 1, -1]) (a := b) l6 (by simp) db
        have gz : callF Tbl W (q + 39) 7 [b.d, il w6, .int 1, .lst [.int 0, .int 1, .int (-1)]] [] = .ok k z.d [] := gz
        exact ⟨_, ⟨k, k7, z, .inr pz, dz, rfl⟩, by simp [evalSs, evalS, evalT, evalE, evalEs, Out.bind, Out.fl, EV.d, EV.free, EV.fit, BT.fit, lift, liftB, cmpop, truth, assign, optFl, Fl.call, isD_nn, isD_bb, isN, scal_if, LIM, j6, m66, c5, gz]⟩
      · exact ⟨_, ⟨kc, k7, c, .inr pc, dc, rfl⟩, by simp [evalSs, evalS, evalT, evalE, evalEs, Out.bind, Out.fl, EV.d, EV.free, EV.fit, BT.fit, lift, liftB, cmpop, truth, assign, optFl, Fl.call, isD_nn, isD_bb, isN, scal_if, LIM, j6, m66, c1, c2, c3, c4, c5]⟩
    clear gc pc dc
    rintro _ ⟨kc, k7, c, pc, dc, rfl⟩
    refine ev_one (Q := Q) (t15 ns (some (1, R)) (some (0, .int most)) (some (0, a.d)) (some (1, il w7)) (some (0, b.d)) (some (kc, c.d)) (some (k7, e.d))) (by simp [evalSs, evalS, evalT, evalE, evalEs, Out.bind, Out.fl, EV.d, EV.free, EV.fit, BT.fit, lift, liftB, cmpop, truth, assign, optFl, Fl.call, isD_nn, isD_bb, isN, scal_if, LIM, g7]) ?_
    obtain ⟨ky, y, py, dy, gy⟩ := nn (x := w7) (ms := [0, 0, 1, -1]) (a := a) l7 (by simp) da
    have gy : callF Tbl W (q + 39) 7 [a.d, il w7, .int 1, .lst [.int 0, .int 0, .int 1, .int (-1)]] [] = .ok ky y.d [] := gy
    obtain ⟨kz, z, pz, dz, gz⟩ := xx (x := w7) (a := a) l7 da
    refine ⟨[a, b, c, y, z], rfl, ?_, ?_⟩
    · intro x hx
      simp only [List.mem_cons, List.not_mem_nil, or_false] at hx
      rcases hx with rfl | rfl | rfl | rfl | rfl
      · exact ⟨pa, da⟩
      · exact ⟨pb, db⟩
      · exact ⟨pc, dc⟩
      · exact ⟨.inr py, dy⟩
      · exact ⟨.inr (pz pa), dz⟩
    · simp [evalSs, evalS, evalT, evalE, evalEs, Out.bind, Out.fl, EV.d, EV.free, EV.fit, BT.fit, lift, liftB, cmpop, truth, assign, optFl, Fl.call, isD_nn, isD_bb, isN, scal_if, LIM, gy, gz]
  obtain ⟨ks, h1, h2, h3⟩ := key
  refine ⟨ks, h1, h2, ?_⟩
  rw [callF_eq (fd := ⟨1, 8, b15⟩) rfl rfl (by decide)]
  show (evalSs (callF Tbl W (q + 39)) W b15 (t15 ns none none none none none none none)).call = _
  rw [h3]
  rfl
end K05
end

section
set_option pp.maxSteps 700
namespace K05
open BT
abbrev t16 (ns : List Int) (ks vs : List Kd) (x3 x4 x5 x6 : Option (Nat × D)) : S := ⟨[some (0, il ns), some (0, .lst (ks.map Kd.d)), some (1, .lst (vs.map Kd.d)), x3, x4, x5, x6], []⟩
theorem kd_at {ks : List Kd} {i : Nat} {a : Kd} (h : ks[i]? = some a) : idxD (.lst (ks.map Kd.d)) (.int (i : Int)) = some a.d := by
  have hj : i < ks.length := (List.getElem?_eq_some_iff.mp h).1
  simp only [idxD, List.length_map]
  rw [ixN_nat hj]
  simp [h]
def body16 : CSs := .cons (.asg (.name 4) (.call 3 (.cons (.var 0) (.cons (.bin .add (.int 8) (.bor 3)) (.cons (.int 32) .nil))))) <|
      .cons (.asg (.name 5) (.call 13 (.cons (.idx (.bor 1) (.bor 3)) (.cons (.var 4) (.cons (.int 1) .nil))))) <|
      .cons (.asg (.name 6) (.call 11 (.cons (.idx (.bor 1) (.bor 3)) .nil))) <|
      .cons (.asg (.name 2) (.cat (.bor 2) (.lst 1 (.cons (.var 6) (.cons (.var 5) (.cons (.call 14 (.cons (.idx (.bor 1) (.bor 3)) (.cons (.idx (.lst 1 (.cons (.var 6) (.cons (.var 5) .nil))) (.bin .mod (.bi .int (.cons (.idx (.bor 4) (.int 31)) .nil)) (.int 2))) (.cons (.var 4) (.cons (.int 0) .nil))))) .nil)))))) <|
      .cons (.app 2 (.call 8 (.cons (.var 5) (.cons (.var 4) (.cons (.int 0) .nil))))) <|
      .nil
theorem body16_ok {ns : List Int} (hn : ns.length ≤ 63) (q : Nat) {ks vs : List Kd} {i : Nat} {a : Kd} (hi : ks[i]? = some a) (da : dk a ≤ 4) (hv : vs.length ≤ 100) (x4 x5 x6 : Option (Nat × D)) :
    ∃ (ws : List Kd) (y4 y5 y6 : Option (Nat × D)), ws.length = vs.length + 4 ∧ evalSs (callF Tbl W (q + 39)) W body16 (t16 ns ks vs (some (0, .int (i : Int))) x4 x5 x6) = .next (t16 ns ks ws (some (0, .int (i : Int))) y4 y5 y6) := by
  obtain ⟨rs, lr, _, gr⟩ := row_ok (T := Tbl) (W := W) (n := q + 38) (sto := []) (f := 3) rfl hn (k := 8 + i) (c := 32) (by decide)
  have gr : callF Tbl W (q + 39) 3 [il ns, .int (8 + (i : Int)), .int 32] [] = .ok 1 (il rs) [] := by
    have e : ((8 + i : Nat) : Int) = 8 + (i : Int) := by omega
    rw [e] at gr; exact gr
  have hp : (1 + 1) * 2 ^ dk a ≤ 32 := by
    have : 2 ^ dk a ≤ 2 ^ 4 := Nat.pow_le_pow_right (by decide) da
    omega
  obtain ⟨kv, v, sv, gv⟩ := value_ok (sto := []) lr a 1 (q + 39) hp (by omega)
  have gv : callF Tbl W (q + 39) 13 [a.d, il rs, .int 1] [] = .ok kv v.d [] := gv
  obtain ⟨kt, gt⟩ := top_ok (sto := []) a (q + 39) (by omega)
  have hix := kd_at hi
  obtain ⟨z, hz, ez⟩ := il_at (rs := rs) (p := 31) (by omega)
  have ez : idxD (il rs) (.int 31) = some (.int z) := ez
  have hb2 : binop .mod (.int z) (.int 2) = some (.int (z % 2)) := binop_mod (by decide)
  have w0 := Int.emod_nonneg z (show (2 : Int) ≠ 0 by decide)
  have w1 := Int.emod_lt_of_pos z (show (0 : Int) < 2 by decide)
  have i0 : ∀ x y : D, idxD (.lst [x, y]) (.int 0) = some x := fun x y => rfl
  have i1 : ∀ x y : D, idxD (.lst [x, y]) (.int 1) = some y := fun x y => rfl
  obtain ⟨ke, e, _, _, ge⟩ := exch_ok (sto := []) lr v 0 (q + 39) (by rw [sh_dk _ _ sv]; omega) (by rw [sh_dk _ _ sv]; omega)
  have ge : callF Tbl W (q + 39) 8 [v.d, il rs, .int 0] [] = .ok ke e.d [] := ge
  obtain ⟨b, kb, gb⟩ : ∃ (b : Kd) (kb : Nat), callF Tbl W (q + 39) 14 [a.d, (if z % 2 = 0 then (top a).d else v.d), il rs, .int 0] [] = .ok kb b.d [] := by
    by_cases c : z % 2 = 0
    · obtain ⟨kb, b, _, gb⟩ := beyond_ok (sto := []) lr a (top a) 0 (q + 39) (sh_top a) (by omega) (by omega)
      exact ⟨b, kb, by rw [if_pos c]; exact gb⟩
    · obtain ⟨kb, b, _, gb⟩ := beyond_ok (sto := []) lr a v 0 (q + 39) sv (by omega) (by omega)
      exact ⟨b, kb, by rw [if_neg c]; exact gb⟩
  refine ⟨vs ++ [top a, v, b] ++ [e], some (0, il rs), some (0, v.d), some (0, (top a).d), by simp, ?_⟩
  unfold body16
  refine ev_one (Q := fun F => F = _) (t16 ns ks vs (some (0, .int (i : Int))) (some (1, il rs)) x5 x6) (by simp [evalSs, evalS, evalT, evalE, evalEs, Out.bind, Out.fl, EV.d, EV.free, EV.fit, BT.fit, lift, liftB, cmpop, truth, assign, optFl, Fl.call, isD_nn, isD_bb, isN, scal_if, LIM, binop_add, gr]) ?_
  refine ev_one (Q := fun F => F = _) (t16 ns ks vs (some (0, .int (i : Int))) (some (0, il rs)) (some (kv, v.d)) x6) (by simp [evalSs, evalS, evalT, evalE, evalEs, Out.bind, Out.fl, EV.d, EV.free, EV.fit, BT.fit, lift, liftB, cmpop, truth, assign, optFl, Fl.call, isD_nn, isD_bb, isN, scal_if, LIM, hix, gv]) ?_
  refine ev_one (Q := fun F => F = _) (t16 ns ks vs (some (0, .int (i : Int))) (some (0, il rs)) (some (kv, v.d)) (some (kt, (top a).d))) (by simp [evalSs, evalS, evalT, evalE, evalEs, Out.bind, Out.fl, EV.d, EV.free, EV.fit, BT.fit, lift, liftB, cmpop, truth, assign, optFl, Fl.call, isD_nn, isD_bb, isN, scal_if, LIM, hix, gt]) ?_
  have hl1 : vs.length + 3 ≤ 1000000 := by omega
  have hl2 : vs.length + 3 < 1000000 := by omega
  refine ev_one (Q := fun F => F = _) (t16 ns ks (vs ++ [top a, v, b]) (some (0, .int (i : Int))) (some (0, il rs)) (some (0, v.d)) (some (0, (top a).d))) ?_ ?_
  · by_cases c : z % 2 = 0
    · rw [if_pos c] at gb
      simp [evalSs, evalS, evalT, evalE, evalEs, Out.bind, Out.fl, EV.d, EV.free, EV.fit, BT.fit, lift, liftB, cmpop, truth, assign, optFl, Fl.call, isD_nn, isD_bb, isN, scal_if, LIM, EV.sees, hix, ez, int_ok, hb2, c, i0, i1, gb, hl1]
    · have c1 : z % 2 = 1 := by omega
      rw [if_neg c] at gb
      simp [evalSs, evalS, evalT, evalE, evalEs, Out.bind, Out.fl, EV.d, EV.free, EV.fit, BT.fit, lift, liftB, cmpop, truth, assign, optFl, Fl.call, isD_nn, isD_bb, isN, scal_if, LIM, EV.sees, hix, ez, int_ok, hb2, c1, i0, i1, gb, hl1]
  refine ev_one (Q := fun F => F = _) (t16 ns ks (vs ++ [top a, v, b] ++ [e]) (some (0, .int (i : Int))) (some (0, il rs)) (some (0, v.d)) (some (0, (top a).d))) ?_ ?_
  · simp [evalSs, evalS, evalT, evalE, evalEs, Out.bind, Out.fl, EV.d, EV.free, EV.fit, BT.fit, lift, liftB, cmpop, truth, assign, optFl, Fl.call, isD_nn, isD_bb, isN, scal_if, LIM, ge, hl2]
  · rfl
theorem values_ok {ns : List Int} (hn : ns.length ≤ 63) (q : Nat) {ks : List Kd} (h5 : ks.length = 5) (hk : ∀ a ∈ ks, dk a ≤ 4) : ∃ vs : List Kd, callF Tbl W (q + 40) 16 [il ns, .lst (ks.map Kd.d)] [] = .ok 1 (.lst (vs.map Kd.d)) [] := by
  have loop : ∀ (is : List Nat) (vs : List Kd) (x3 x4 x5 x6 : Option (Nat × D)), (∀ i ∈ is, i < 5) → vs.length + 4 * is.length ≤ 100 → ∃ (ws : List Kd) (y3 y4 y5 y6 : Option (Nat × D)),
      forL (fun d s2 => match assign (.name 3) 0 d s2 with
        | some s3 => evalSs (callF Tbl W (q + 39)) W body16 s3
        | none => .err) (is.map fun (i : Nat) => .int (i : Int)) (t16 ns ks vs x3 x4 x5 x6) = .next (t16 ns ks ws y3 y4 y5 y6) := by
    intro is
    induction is with
    | nil => exact fun vs x3 x4 x5 x6 _ _ => ⟨vs, x3, x4, x5, x6, rfl⟩
    | cons i is ih =>
      intro vs x3 x4 x5 x6 h1 h2
      simp only [List.length_cons] at h2
      have hi := h1 i (by simp)
      obtain ⟨a, ha⟩ : ∃ a, ks[i]? = some a := ⟨ks[i], by simp [h5, hi]⟩
      have da := hk a (List.mem_of_getElem? ha)
      obtain ⟨ws, y4, y5, y6, hw, e⟩ := body16_ok hn q ha da (vs := vs) (by omega) x4 x5 x6
      obtain ⟨us, z3, z4, z5, z6, e2⟩ := ih ws (some (0, .int (i : Int))) y4 y5 y6 (fun j m => h1 j (by simp [m])) (by omega)
      refine ⟨us, z3, z4, z5, z6, ?_⟩
      rw [← e2, List.map_cons]
      exact forL_next e
  obtain ⟨ws, y3, y4, y5, y6, e⟩ := loop (List.range 5) [.leaf 0, .pair (.leaf 0) (.leaf 0)] none none none none (fun i m => List.mem_range.mp m) (by decide)
  refine ⟨ws, ?_⟩
  rw [callF_eq (fd := ⟨2, 7, b16⟩) rfl rfl (by decide)]
  have key : evalSs (callF Tbl W (q + 39)) W b16 ⟨[some (0, il ns), some (0, .lst (ks.map Kd.d)), none, none, none, none, none], []⟩ = .ret 1 (.lst (ws.map Kd.d)) [] := by
    unfold b16
    have e1 : evalS (callF Tbl W (q + 39)) W (.asg (.name 2) (.lst 1 (.cons (.int 0) (.cons (.tup 1 (.cons (.int 0) (.cons (.int 0) .nil))) .nil)))) ⟨[some (0, il ns), some (0, .lst (ks.map Kd.d)), none, none, none, none, none], []⟩ = .next (t16 ns ks [.leaf 0, .pair (.leaf 0) (.leaf 0)] none none none none) := by simp [evalSs, evalS, evalT, evalE, evalEs, Out.bind, Out.fl, EV.d, EV.free, EV.fit, BT.fit, lift, liftB, cmpop, truth, assign, optFl, Fl.call, isD_nn, isD_bb, isN, scal_if, LIM, Kd.d]
    have e2 : evalI (callF Tbl W (q + 39)) (.range1 (.bi .len (.cons (.bor 1) .nil))) (t16 ns ks [.leaf 0, .pair (.leaf 0) (.leaf 0)] none none none none) = .ok (rng 5) (t16 ns ks [.leaf 0, .pair (.leaf 0) (.leaf 0)] none none none none) :=
      evalI_range1 (x := .own 0 (.int 5)) (n := 5) (by simp [evalSs, evalS, evalT, evalE, evalEs, Out.bind, Out.fl, EV.d, EV.free, EV.fit, BT.fit, lift, liftB, cmpop, truth, assign, optFl, Fl.call, isD_nn, isD_bb, isN, scal_if, LIM, biD, h5]) rfl (by decide) (by decide)
    have e3 := ev_for (W := W) (t := .name 3) (b := body16) (F := .next (t16 ns ks ws y3 y4 y5 y6)) e2 e
    rw [ev_next e1]
    unfold body16 at e3
    rw [ev_next e3]
    exact ev_ret (by simp [evalS, evalE, Out.fl])
  show (evalSs (callF Tbl W (q + 39)) W b16 ⟨[some (0, il ns), some (0, .lst (ks.map Kd.d)), none, none, none, none, none], []⟩).call = _
  rw [key]
  rfl
end K05
end

section
set_option pp.maxSteps 700
namespace K05
open BT
abbrev t17 (ns : List Int) (k1 : Nat) (ks : List Kd) (x2 x3 x4 x5 x6 : Option (Nat × D)) : S := ⟨[some (0, il ns), some (k1, .lst (ks.map Kd.d)), x2, x3, x4, x5, x6], []⟩
def bodyA : CSs := .cons (.asg (.name 5) (.call 9 (.cons (.idx (.bor 1) (.bor 3)) (.cons (.idx (.bor 1) (.bor 4)) .nil)))) <|
      .cons (.ifs (.cmp .isNot (.bor 5) .non) (.cons (.app 1 (.var 5)) <|
        .nil) (.nil)) <|
      .nil
def bodyB : CSs := .cons (.ifs (.not (.call 4 (.cons (.call 0 (.cons (.var 3) (.cons (.var 4) .nil))) (.cons (.call 9 (.cons (.var 3) (.cons (.var 4) .nil))) .nil)))) (.cons (.ret (.bl false)) <|
          .nil) (.nil)) <|
        .cons (.ifs (.not (.call 5 (.cons (.call 1 (.cons (.var 3) (.cons (.var 4) .nil))) (.cons (.call 12 (.cons (.var 3) (.cons (.var 4) .nil))) .nil)))) (.cons (.ret (.bl false)) <|
          .nil) (.nil)) <|
        .nil
def bodyC : CSs := .cons (.ifs (.not (.call 5 (.cons (.call 2 (.cons (.var 3) (.cons (.var 6) .nil))) (.cons (.call 10 (.cons (.var 3) (.cons (.var 6) .nil))) .nil)))) (.cons (.ret (.bl false)) <|
          .nil) (.nil)) <|
        .nil
def bodyD : CSs := .cons (.for (.name 4) (.val (.var 1)) bodyB) <|
      .cons (.for (.name 6) (.val (.var 2)) bodyC) <|
      .nil
def GK (ks : List Kd) : Prop := ∀ a ∈ ks, Gk a ∧ dk a ≤ 4
theorem bodyA_ok {ns : List Int} {ks : List Kd} {i j : Nat} (hk : GK ks) (hi : i < ks.length) (hj : j < ks.length) (hl : ks.length ≤ 100) (x2 x5 x6 : Option (Nat × D)) :
    ∃ (ls : List Kd) (y5 : Option (Nat × D)), GK ls ∧ ks.length ≤ ls.length ∧ ls.length ≤ ks.length + 1 ∧ evalSs (callF Tbl W 99) W bodyA (t17 ns 1 ks x2 (some (0, .int (i : Int))) (some (0, .int (j : Int))) x5 x6) = .next (t17 ns 1 ls x2 (some (0, .int (i : Int))) (some (0, .int (j : Int))) y5 x6) := by
  obtain ⟨a, ha⟩ : ∃ a, ks[i]? = some a := ⟨ks[i], by simp [hi]⟩
  obtain ⟨b, hb⟩ : ∃ b, ks[j]? = some b := ⟨ks[j], by simp [hj]⟩
  have pa := hk a (List.mem_of_getElem? ha)
  have pb := hk b (List.mem_of_getElem? hb)
  have ia := kd_at ha
  have ib := kd_at hb
  obtain ⟨kj, gj⟩ := join_ok (f := 9) (sto := []) rfl a b 99 (by omega) (by omega) (by omega)
  have hl2 : ks.length < 1000000 := by omega
  unfold bodyA
  cases hjn : join a b with
  | none =>
    rw [hjn] at gj
    have gj : callF Tbl W 99 9 [a.d, b.d] [] = .ok kj .non [] := gj
    exact ⟨ks, some (kj, .non), hk, Nat.le_refl _, by omega, by simp [evalSs, evalS, evalT, evalE, evalEs, Out.bind, Out.fl, EV.d, EV.free, EV.fit, BT.fit, lift, liftB, cmpop, truth, assign, optFl, Fl.call, isD_nn, isD_bb, isN, scal_if, LIM, ia, ib, gj]⟩
  | some e =>
    rw [hjn] at gj
    have gj : callF Tbl W 99 9 [a.d, b.d] [] = .ok kj e.d [] := gj
    refine ⟨ks ++ [e], some (0, e.d), fun x m => ?_, by simp, by simp, ?_⟩
    · rcases List.mem_append.mp m with m | m
      · exact hk x m
      · have : x = e := by simpa using m
        subst this
        exact ⟨gk_join pa.1 pb.1 hjn, by have := dk_join a b x hjn; omega⟩
    · simp [evalSs, evalS, evalT, evalE, evalEs, Out.bind, Out.fl, EV.d, EV.free, EV.fit, BT.fit, lift, liftB, cmpop, truth, assign, optFl, Fl.call, isD_nn, isD_bb, isN, scal_if, LIM, ia, ib, gj, hl2]
theorem bodyB_ok {ns : List Int} {ks : List Kd} {a b : Kd} (pa : Gk a ∧ dk a ≤ 4) (pb : Gk b ∧ dk b ≤ 4) (x2 x5 x6 : Option (Nat × D)) :
    evalSs (callF Tbl W 99) W bodyB (t17 ns 0 ks x2 (some (0, a.d)) (some (0, b.d)) x5 x6) = .next (t17 ns 0 ks x2 (some (0, a.d)) (some (0, b.d)) x5 x6) := by
  obtain ⟨k0, g0⟩ := join_ok (f := 0) (sto := []) rfl a b 99 (by omega) (by omega) (by omega)
  obtain ⟨k9, g9⟩ := join_ok (f := 9) (sto := []) rfl a b 99 (by omega) (by omega) (by omega)
  have ge := equal_od (sto := []) (join a b) 99 (fun x h => by have := dk_join a b x h; omega) (by decide)
  have gf := fits_ok (n := 99) (sto := []) (a := a) (b := b) (by omega) (by omega) (by decide)
  obtain ⟨kl, gl⟩ := lfits_ok (n := 99) (sto := []) (a := a) (b := b) (by omega) (by omega) (by decide)
  rw [← fit_gk pa.1 pb.1] at gl
  have gs : ∀ x y, callF Tbl W 99 5 [.bl x, .bl y] [] = .ok 0 (.bl (decide (x = y))) [] := fun x y => says_ok (n := 98) x y
  unfold bodyB
  simp [evalSs, evalS, evalT, evalE, evalEs, Out.bind, Out.fl, EV.d, EV.free, EV.fit, BT.fit, lift, liftB, cmpop, truth, assign, optFl, Fl.call, isD_nn, isD_bb, isN, scal_if, LIM, g0, g9, ge, gf, gl, gs]
theorem bodyC_ok {ns : List Int} {ks : List Kd} {a v : Kd} (pa : dk a ≤ 4) (x2 x4 x5 : Option (Nat × D)) :
    evalSs (callF Tbl W 99) W bodyC (t17 ns 0 ks x2 (some (0, a.d)) x4 x5 (some (0, v.d))) = .next (t17 ns 0 ks x2 (some (0, a.d)) x4 x5 (some (0, v.d))) := by
  obtain ⟨k2, g2⟩ := has_ok (f := 2) (sto := []) rfl a v 99 (by omega)
  obtain ⟨k10, g10⟩ := has_ok (f := 10) (sto := []) rfl a v 99 (by omega)
  have gs : ∀ x y, callF Tbl W 99 5 [.bl x, .bl y] [] = .ok 0 (.bl (decide (x = y))) [] := fun x y => says_ok (n := 98) x y
  unfold bodyC
  simp [evalSs, evalS, evalT, evalE, evalEs, Out.bind, Out.fl, EV.d, EV.free, EV.fit, BT.fit, lift, liftB, cmpop, truth, assign, optFl, Fl.call, isD_nn, isD_bb, isN, scal_if, LIM, g2, g10, gs]
theorem val1 {ns : List Int} {k1 : Nat} {ks : List Kd} {x2 x3 x4 x5 x6 : Option (Nat × D)} : evalI (callF Tbl W 99) (.val (.var 1)) (t17 ns k1 ks x2 x3 x4 x5 x6) = .ok (ks.map Kd.d) (t17 ns 0 ks x2 x3 x4 x5 x6) := by
  simp [evalI, evalSs, evalS, evalT, evalE, evalEs, Out.bind, Out.fl, EV.d, EV.free, EV.fit, BT.fit, lift, liftB, cmpop, truth, assign, optFl, Fl.call, isD_nn, isD_bb, isN, scal_if, LIM]
theorem val2 {ns : List Int} {k1 k2 : Nat} {ks vs : List Kd} {x3 x4 x5 x6 : Option (Nat × D)} : evalI (callF Tbl W 99) (.val (.var 2)) (t17 ns k1 ks (some (k2, .lst (vs.map Kd.d))) x3 x4 x5 x6) = .ok (vs.map Kd.d) (t17 ns k1 ks (some (0, .lst (vs.map Kd.d))) x3 x4 x5 x6) := by
  simp [evalI, evalSs, evalS, evalT, evalE, evalEs, Out.bind, Out.fl, EV.d, EV.free, EV.fit, BT.fit, lift, liftB, cmpop, truth, assign, optFl, Fl.call, isD_nn, isD_bb, isN, scal_if, LIM]
theorem bodyD_ok {ns : List Int} {ks vs : List Kd} {a : Kd} (pa : Gk a ∧ dk a ≤ 4) (hk : GK ks) (k2 : Nat) (x4 x5 x6 : Option (Nat × D)) :
    ∃ y4 y6, evalSs (callF Tbl W 99) W bodyD (t17 ns 0 ks (some (k2, .lst (vs.map Kd.d))) (some (0, a.d)) x4 x5 x6) = .next (t17 ns 0 ks (some (0, .lst (vs.map Kd.d))) (some (0, a.d)) y4 x5 y6) := by
  have loop1 : ∀ (ls : List Kd), GK ls → ∀ (x2 x4 x6 : Option (Nat × D)), ∃ y4, forL (fun d s2 => match assign (.name 4) 0 d s2 with
      | some s3 => evalSs (callF Tbl W 99) W bodyB s3
      | none => .err) (ls.map Kd.d) (t17 ns 0 ks x2 (some (0, a.d)) x4 x5 x6) = .next (t17 ns 0 ks x2 (some (0, a.d)) y4 x5 x6) := by
    intro ls
    induction ls with
    | nil => exact fun _ x2 x4 x6 => ⟨x4, rfl⟩
    | cons b ls ih =>
      intro hl x2 x4 x6
      obtain ⟨y4, e⟩ := ih (fun x m => hl x (by simp [m])) x2 (some (0, b.d)) x6
      refine ⟨y4, ?_⟩
      rw [← e, List.map_cons]
      exact forL_next (bodyB_ok pa (hl b (by simp)) x2 x5 x6)
  have loop2 : ∀ (ls : List Kd), ∀ (x2 x4 x6 : Option (Nat × D)), ∃ y6, forL (fun d s2 => match assign (.name 6) 0 d s2 with
      | some s3 => evalSs (callF Tbl W 99) W bodyC s3
      | none => .err) (ls.map Kd.d) (t17 ns 0 ks x2 (some (0, a.d)) x4 x5 x6) = .next (t17 ns 0 ks x2 (some (0, a.d)) x4 x5 y6) := by
    intro ls
    induction ls with
    | nil => exact fun x2 x4 x6 => ⟨x6, rfl⟩
    | cons b ls ih =>
      intro x2 x4 x6
      obtain ⟨y6, e⟩ := ih x2 x4 (some (0, b.d))
      refine ⟨y6, ?_⟩
      rw [← e, List.map_cons]
      exact forL_next (bodyC_ok pa.2 x2 x4 x5)
  obtain ⟨y4, e1⟩ := loop1 ks hk (some (k2, .lst (vs.map Kd.d))) x4 x6
  obtain ⟨y6, e2⟩ := loop2 vs (some (0, .lst (vs.map Kd.d))) y4 x6
  refine ⟨y4, y6, ?_⟩
  unfold bodyD
  have f1 := ev_for (W := W) (t := .name 4) (b := bodyB) (F := .next (t17 ns 0 ks (some (k2, .lst (vs.map Kd.d))) (some (0, a.d)) y4 x5 x6)) (val1 (k1 := 0) (x4 := x4)) e1
  have f2 := ev_for (W := W) (t := .name 6) (b := bodyC) (F := .next (t17 ns 0 ks (some (0, .lst (vs.map Kd.d))) (some (0, a.d)) y4 x5 y6)) (val2 (k2 := k2) (x6 := x6)) e2
  rw [ev_next f1, ev_next f2]
  rfl
theorem main0 {ns : List Int} (hn : ns.length ≤ 63) : ∃ k sto, callF Tbl W 100 17 [.lst (ns.map .int)] [] = .ok k (.bl true) sto := by
  obtain ⟨ks, h5, hk, gk⟩ := kinds_ok hn 59
  obtain ⟨vs, gv⟩ := values_ok hn 59 h5 (fun a m => (hk a m).2)
  have gk : callF Tbl W 99 15 [il ns] [] = .ok 1 (.lst (ks.map Kd.d)) [] := gk
  have gv : callF Tbl W 99 16 [il ns, .lst (ks.map Kd.d)] [] = .ok 1 (.lst (vs.map Kd.d)) [] := gv
  have hnl : ∀ vs : List Kd, noLL (vs.map Kd.d) = true := fun vs => by
    induction vs with
    | nil => rfl
    | cons v vs ih => simp [noLL, noL_d, ih]
  have hpl : ∀ vs : List Kd, plainL (vs.map Kd.d) = true := fun vs => by
    induction vs with
    | nil => rfl
    | cons v vs ih => simp [plainL, plain_d, ih]
  have hpi : ∀ vs : List Int, plainL (vs.map D.int) = true := fun vs => by
    induction vs with
    | nil => rfl
    | cons v vs ih => simp [plainL, plain, ih]
  let V : Option (Nat × D) := some (1, .lst (vs.map Kd.d))
  have loopA : ∀ (ps : List (Nat × Nat)) (ks : List Kd) (x3 x4 x5 x6 : Option (Nat × D)), (∀ p ∈ ps, p.1 < 5 ∧ p.2 < 5) → GK ks → 5 ≤ ks.length → ks.length + ps.length ≤ 50 → ∃ (ls : List Kd) (y3 y4 y5 : Option (Nat × D)), GK ls ∧ ls.length ≤ 50 ∧
      forL (fun d s2 => match assign (.tup [3, 4]) 0 d s2 with
      | some s3 => evalSs (callF Tbl W 99) W bodyA s3
      | none => .err) (ps.map fun p => .tup [.int (p.1 : Int), .int (p.2 : Int)]) (t17 ns 1 ks V x3 x4 x5 x6) = .next (t17 ns 1 ls V y3 y4 y5 x6) := by
    intro ps
    induction ps with
    | nil => exact fun ks x3 x4 x5 x6 _ hk _ h => ⟨ks, x3, x4, x5, hk, by simpa using h, rfl⟩
    | cons p ps ih =>
      intro ks x3 x4 x5 x6 hp hk h5 hl
      simp only [List.length_cons] at hl
      have h := hp p (by simp)
      obtain ⟨ls, y5, p1, p2, p3, p4⟩ := bodyA_ok (ns := ns) (i := p.1) (j := p.2) hk (by omega) (by omega) (by omega) V x5 x6
      obtain ⟨ms, z3, z4, z5, q1, q2, q3⟩ := ih ls (some (0, .int (p.1 : Int))) (some (0, .int (p.2 : Int))) y5 x6 (fun x m => hp x (by simp [m])) p1 (by omega) (by omega)
      refine ⟨ms, z3, z4, z5, q1, q2, ?_⟩
      rw [← q3, List.map_cons]
      exact forL_next p4
  obtain ⟨ls, y3, y4, y5, p1, p2, p3⟩ := loopA [(0, 1), (1, 2), (2, 0)] ks none none none none (by decide) hk (by omega) (by rw [h5]; decide)
  have gl : GK (ls ++ [.leaf 0]) := fun x m => by
    rcases List.mem_append.mp m with m | m
    · exact p1 x m
    · have : x = .leaf 0 := by simpa using m
      subst this
      exact ⟨.inl rfl, by simp [dk]⟩
  have loopD : ∀ (ms : List Kd), GK ms → ∀ (k2 : Nat) (x3 x4 x5 x6 : Option (Nat × D)), ∃ k2' y3 y4 y6,
      forL (fun d s2 => match assign (.name 3) 0 d s2 with
      | some s3 => evalSs (callF Tbl W 99) W bodyD s3
      | none => .err) (ms.map Kd.d) (t17 ns 0 (ls ++ [.leaf 0]) (some (k2, .lst (vs.map Kd.d))) x3 x4 x5 x6) = .next (t17 ns 0 (ls ++ [.leaf 0]) (some (k2', .lst (vs.map Kd.d))) y3 y4 x5 y6) := by
    intro ms
    induction ms with
    | nil => exact fun _ k2 x3 x4 x5 x6 => ⟨k2, x3, x4, x6, rfl⟩
    | cons a ms ih =>
      intro hm k2 x3 x4 x5 x6
      obtain ⟨y4, y6, e⟩ := bodyD_ok (ns := ns) (vs := vs) (hm a (by simp)) gl k2 x4 x5 x6
      obtain ⟨k', z3, z4, z6, e2⟩ := ih (fun x m => hm x (by simp [m])) 0 (some (0, a.d)) y4 x5 y6
      refine ⟨k', z3, z4, z6, ?_⟩
      rw [← e2, List.map_cons]
      exact forL_next e
  obtain ⟨k2', z3, z4, z6, p4⟩ := loopD (ls ++ [.leaf 0]) gl 1 y3 y4 y5 none
  refine ⟨0, [], ?_⟩
  rw [callF_eq (n := 99) (fd := ⟨1, 7, b17⟩) rfl rfl (by decide)]
  have c1 : evalS (callF Tbl W 99) W (.asg (.name 1) (.call 15 (.cons (.var 0) .nil))) ⟨[some (0, il ns), none, none, none, none, none, none], []⟩ = .next (t17 ns 1 ks none none none none none) := by simp [evalSs, evalS, evalT, evalE, evalEs, Out.bind, Out.fl, EV.d, EV.free, EV.fit, BT.fit, lift, liftB, cmpop, truth, assign, optFl, Fl.call, isD_nn, isD_bb, isN, scal_if, LIM, gk]
  have c2 : evalS (callF Tbl W 99) W (.asg (.name 2) (.call 16 (.cons (.var 0) (.cons (.bor 1) .nil)))) (t17 ns 1 ks none none none none none) = .next (t17 ns 1 ks V none none none none) := by
    simp [evalSs, evalS, evalT, evalE, evalEs, Out.bind, Out.fl, EV.d, EV.free, EV.fit, BT.fit, lift, liftB, cmpop, truth, assign, optFl, Fl.call, isD_nn, isD_bb, isN, scal_if, LIM, gv, scal, plain, hpl, hpi, noL, hnl, V]
  have c3 : evalI (callF Tbl W 99) (.val (.tup 1 (.cons (.tup 1 (.cons (.int 0) (.cons (.int 1) .nil))) (.cons (.tup 1 (.cons (.int 1) (.cons (.int 2) .nil))) (.cons (.tup 1 (.cons (.int 2) (.cons (.int 0) .nil))) .nil))))) (t17 ns 1 ks V none none none none) = .ok ([(0, 1), (1, 2), (2, 0)].map fun (p : Nat × Nat) => .tup [.int (p.1 : Int), .int (p.2 : Int)]) (t17 ns 1 ks V none none none none) := by
    simp [evalI, evalSs, evalS, evalT, evalE, evalEs, Out.bind, Out.fl, EV.d, EV.free, EV.fit, BT.fit, lift, liftB, cmpop, truth, assign, optFl, Fl.call, isD_nn, isD_bb, isN, scal_if, LIM]
  have c4 := ev_for (W := W) (t := .tup [3, 4]) (b := bodyA) (F := .next (t17 ns 1 ls V y3 y4 y5 none)) c3 p3
  have hl2 : ls.length < 1000000 := by omega
  have c5 : evalS (callF Tbl W 99) W (.app 1 (.int 0)) (t17 ns 1 ls V y3 y4 y5 none) = .next (t17 ns 1 (ls ++ [.leaf 0]) V y3 y4 y5 none) := by
    simp [evalSs, evalS, evalT, evalE, evalEs, Out.bind, Out.fl, EV.d, EV.free, EV.fit, BT.fit, lift, liftB, cmpop, truth, assign, optFl, Fl.call, isD_nn, isD_bb, isN, scal_if, LIM, hl2, Kd.d]
  have c6 := ev_for (W := W) (t := .name 3) (b := bodyD) (F := .next (t17 ns 0 (ls ++ [.leaf 0]) (some (k2', .lst (vs.map Kd.d))) z3 z4 y5 z6)) (val1 (k1 := 1) (x2 := V)) p4
  have key : evalSs (callF Tbl W 99) W b17 ⟨[some (0, il ns), none, none, none, none, none, none], []⟩ = .ret 0 (.bl true) [] := by
    unfold b17
    unfold bodyD bodyB bodyC at c6
    unfold bodyA at c4
    rw [ev_next c1, ev_next c2, ev_next c4, ev_next c5, ev_next c6]
    exact ev_ret (by simp [evalS, evalE, Out.fl])
  show (evalSs (callF Tbl W 99) W b17 ⟨[some (0, il ns), none, none, none, none, none, none], []⟩).call = _
  rw [key]
  rfl
end K05
end

section
namespace K05
open PySem PySem.Spec L2 BT
open PyProof.Rows hiding St
set_option autoImplicit false
def names : List PySem.Str := ["joined", "fits", "has", "_law_row", "_law_equal", "_law_says", "_law_kind", "_law_near", "_law_exchanged", "_law_join", "_law_has", "_law_top", "_law_fits", "_law_value", "_law_beyond", "_law_kinds", "_law_values", "law"]
def nm : Nat → Option PySem.Str := fun n => names[n]?
def blts : List PySem.Str := ["bool", "int", "isinstance", "len", "list", "max", "min", "range", "str", "tuple"]
/-! ### they tell the text -/
def topS (i : Nat) : Stmt := PySem.Challenge.pw_besideandthrough_k05_joined_is_least.main.body.getD i (.Pass ⟨0, 0, 0, 0⟩)
abbrev s0 : Stmt := topS 1
abbrev n0 : List PySem.Str := ["one", "other", "first", "second"]
abbrev p0 : List PySem.Str := ["one", "other"]
theorem sc0 : FnScope n0 p0 (defScope s0) := ⟨rfl, rfl, rfl, by decide +kernel, rfl, by decide +kernel, by decide +kernel⟩
theorem ck0 : ckSs ⟨n0, defScope s0, nm, blts, false⟩ b0 (defBody s0) = true := by decide +kernel
abbrev s1 : Stmt := topS 2
abbrev n1 : List PySem.Str := ["kind", "other"]
abbrev p1 : List PySem.Str := ["kind", "other"]
theorem sc1 : FnScope n1 p1 (defScope s1) := ⟨rfl, rfl, rfl, by decide +kernel, rfl, by decide +kernel, by decide +kernel⟩
theorem ck1 : ckSs ⟨n1, defScope s1, nm, blts, false⟩ b1 (defBody s1) = true := by decide +kernel
abbrev s2 : Stmt := topS 3
abbrev n2 : List PySem.Str := ["kind", "value"]
abbrev p2 : List PySem.Str := ["kind", "value"]
theorem sc2 : FnScope n2 p2 (defScope s2) := ⟨rfl, rfl, rfl, by decide +kernel, rfl, by decide +kernel, by decide +kernel⟩
theorem ck2 : ckSs ⟨n2, defScope s2, nm, blts, false⟩ b2 (defBody s2) = true := by decide +kernel
abbrev s3 : Stmt := topS 5
abbrev n3 : List PySem.Str := ["_law_script", "_law_k", "_law_count", "_law_cell", "_law_row_here", "_law_seed", "_law_at"]
abbrev p3 : List PySem.Str := ["_law_script", "_law_k", "_law_count"]
theorem sc3 : FnScope n3 p3 (defScope s3) := ⟨rfl, rfl, rfl, by decide +kernel, rfl, by decide +kernel, by decide +kernel⟩
theorem ck3 : ckSs ⟨n3, defScope s3, nm, blts, false⟩ b3 (defBody s3) = true := by decide +kernel
abbrev s4 : Stmt := topS 6
abbrev n4 : List PySem.Str := ["_law_told", "_law_due", "_law_at"]
abbrev p4 : List PySem.Str := ["_law_told", "_law_due"]
theorem sc4 : FnScope n4 p4 (defScope s4) := ⟨rfl, rfl, rfl, by decide +kernel, rfl, by decide +kernel, by decide +kernel⟩
theorem ck4 : ckSs ⟨n4, defScope s4, nm, blts, false⟩ b4 (defBody s4) = true := by decide +kernel
abbrev s5 : Stmt := topS 7
abbrev n5 : List PySem.Str := ["_law_told", "_law_due"]
abbrev p5 : List PySem.Str := ["_law_told", "_law_due"]
theorem sc5 : FnScope n5 p5 (defScope s5) := ⟨rfl, rfl, rfl, by decide +kernel, rfl, by decide +kernel, by decide +kernel⟩
theorem ck5 : ckSs ⟨n5, defScope s5, nm, blts, false⟩ b5 (defBody s5) = true := by decide +kernel
abbrev s6 : Stmt := topS 8
abbrev n6 : List PySem.Str := ["_law_shapes", "_law_numbers", "_law_place", "_law_deep", "_law_most", "_law_first"]
abbrev p6 : List PySem.Str := ["_law_shapes", "_law_numbers", "_law_place", "_law_deep", "_law_most"]
theorem sc6 : FnScope n6 p6 (defScope s6) := ⟨rfl, rfl, rfl, by decide +kernel, rfl, by decide +kernel, by decide +kernel⟩
theorem ck6 : ckSs ⟨n6, defScope s6, nm, blts, false⟩ b6 (defBody s6) = true := by decide +kernel
abbrev s7 : Stmt := topS 9
abbrev n7 : List PySem.Str := ["_law_kind_here", "_law_numbers", "_law_place", "_law_menu", "_law_first"]
abbrev p7 : List PySem.Str := ["_law_kind_here", "_law_numbers", "_law_place", "_law_menu"]
theorem sc7 : FnScope n7 p7 (defScope s7) := ⟨rfl, rfl, rfl, by decide +kernel, rfl, by decide +kernel, by decide +kernel⟩
theorem ck7 : ckSs ⟨n7, defScope s7, nm, blts, false⟩ b7 (defBody s7) = true := by decide +kernel
abbrev s8 : Stmt := topS 10
abbrev n8 : List PySem.Str := ["_law_kind_here", "_law_row_here", "_law_level", "_law_way", "_law_part"]
abbrev p8 : List PySem.Str := ["_law_kind_here", "_law_row_here", "_law_level"]
theorem sc8 : FnScope n8 p8 (defScope s8) := ⟨rfl, rfl, rfl, by decide +kernel, rfl, by decide +kernel, by decide +kernel⟩
theorem ck8 : ckSs ⟨n8, defScope s8, nm, blts, false⟩ b8 (defBody s8) = true := by decide +kernel
abbrev s9 : Stmt := topS 11
abbrev n9 : List PySem.Str := ["_law_one", "_law_other", "_law_first", "_law_second"]
abbrev p9 : List PySem.Str := ["_law_one", "_law_other"]
theorem sc9 : FnScope n9 p9 (defScope s9) := ⟨rfl, rfl, rfl, by decide +kernel, rfl, by decide +kernel, by decide +kernel⟩
theorem ck9 : ckSs ⟨n9, defScope s9, nm, blts, false⟩ b9 (defBody s9) = true := by decide +kernel
abbrev s10 : Stmt := topS 12
abbrev n10 : List PySem.Str := ["_law_kind_here", "_law_value_here"]
abbrev p10 : List PySem.Str := ["_law_kind_here", "_law_value_here"]
theorem sc10 : FnScope n10 p10 (defScope s10) := ⟨rfl, rfl, rfl, by decide +kernel, rfl, by decide +kernel, by decide +kernel⟩
theorem ck10 : ckSs ⟨n10, defScope s10, nm, blts, false⟩ b10 (defBody s10) = true := by decide +kernel
abbrev s11 : Stmt := topS 13
abbrev n11 : List PySem.Str := ["_law_kind_here"]
abbrev p11 : List PySem.Str := ["_law_kind_here"]
theorem sc11 : FnScope n11 p11 (defScope s11) := ⟨rfl, rfl, rfl, by decide +kernel, rfl, by decide +kernel, by decide +kernel⟩
theorem ck11 : ckSs ⟨n11, defScope s11, nm, blts, false⟩ b11 (defBody s11) = true := by decide +kernel
abbrev s12 : Stmt := topS 14
abbrev n12 : List PySem.Str := ["_law_one", "_law_other"]
abbrev p12 : List PySem.Str := ["_law_one", "_law_other"]
theorem sc12 : FnScope n12 p12 (defScope s12) := ⟨rfl, rfl, rfl, by decide +kernel, rfl, by decide +kernel, by decide +kernel⟩
theorem ck12 : ckSs ⟨n12, defScope s12, nm, blts, false⟩ b12 (defBody s12) = true := by decide +kernel
abbrev s13 : Stmt := topS 15
abbrev n13 : List PySem.Str := ["_law_kind_here", "_law_numbers", "_law_place"]
abbrev p13 : List PySem.Str := ["_law_kind_here", "_law_numbers", "_law_place"]
theorem sc13 : FnScope n13 p13 (defScope s13) := ⟨rfl, rfl, rfl, by decide +kernel, rfl, by decide +kernel, by decide +kernel⟩
theorem ck13 : ckSs ⟨n13, defScope s13, nm, blts, false⟩ b13 (defBody s13) = true := by decide +kernel
abbrev s14 : Stmt := topS 16
abbrev n14 : List PySem.Str := ["_law_kind_here", "_law_value_here", "_law_row_here", "_law_level", "_law_way", "_law_part"]
abbrev p14 : List PySem.Str := ["_law_kind_here", "_law_value_here", "_law_row_here", "_law_level"]
theorem sc14 : FnScope n14 p14 (defScope s14) := ⟨rfl, rfl, rfl, by decide +kernel, rfl, by decide +kernel, by decide +kernel⟩
theorem ck14 : ckSs ⟨n14, defScope s14, nm, blts, false⟩ b14 (defBody s14) = true := by decide +kernel
abbrev s15 : Stmt := topS 17
abbrev n15 : List PySem.Str := ["_law_script", "_law_row_here", "_law_most", "_law_a", "_law_numbers", "_law_b", "_law_c", "_law_both"]
abbrev p15 : List PySem.Str := ["_law_script"]
theorem sc15 : FnScope n15 p15 (defScope s15) := ⟨rfl, rfl, rfl, by decide +kernel, rfl, by decide +kernel, by decide +kernel⟩
theorem ck15 : ckSs ⟨n15, defScope s15, nm, blts, false⟩ b15 (defBody s15) = true := by decide +kernel
abbrev s16 : Stmt := topS 18
abbrev n16 : List PySem.Str := ["_law_script", "_law_kinds_here", "_law_values_here", "_law_at", "_law_numbers", "_law_value_here", "_law_top_here"]
abbrev p16 : List PySem.Str := ["_law_script", "_law_kinds_here"]
theorem sc16 : FnScope n16 p16 (defScope s16) := ⟨rfl, rfl, rfl, by decide +kernel, rfl, by decide +kernel, by decide +kernel⟩
theorem ck16 : ckSs ⟨n16, defScope s16, nm, blts, false⟩ b16 (defBody s16) = true := by decide +kernel
abbrev s17 : Stmt := topS 19
abbrev n17 : List PySem.Str := ["_law_script", "_law_kinds_here", "_law_values_here", "_law_one", "_law_other", "_law_both", "_law_value_here"]
abbrev p17 : List PySem.Str := ["_law_script"]
theorem sc17 : FnScope n17 p17 (defScope s17) := ⟨rfl, rfl, rfl, by decide +kernel, rfl, by decide +kernel, by decide +kernel⟩
theorem ck17 : ckSs ⟨n17, defScope s17, nm, blts, false⟩ b17 (defBody s17) = true := by decide +kernel
/-! ### what the top has left -/
def mkT (K : PySem.W.Frag) : Tb := ⟨K, fun _ => none, fun _ => none⟩
def depth : Nat := 100
def turns : Nat := 100000
theorem law_ok {l : PySem.W.OpenLaw} {w : World} {K : PySem.W.Frag} {h : Heap} {mg : PySem.Str → Option Value} {fa : Addr} (X : K.In h) (G : h.Ns mainGlobals mg) (hfa : mg "law" = some (.ref fa))
    {f0 : Addr} {oc0 kV0 dc0 pm0 cd0 ct0 : Value} {od0 an0 : Option Addr} {sl0 : Array (Option Value)}
    (a0 : PySem.W.nsIn K mainGlobals "joined" = some (some (.ref f0)))
    (l0 : K.lookup f0 = some ⟨oc0, od0, .func (PySem.W.fnOf "joined" "joined" (defArgs s0) (defBody s0) (defScope s0) .none kV0 dc0 pm0 an0 cd0 ct0), sl0⟩)
    (c0 : PySem.W.codeIn K cd0 "joined" = true) (k0 : PySem.W.keepIn K (.ref f0) = true)
    {f1 : Addr} {oc1 kV1 dc1 pm1 cd1 ct1 : Value} {od1 an1 : Option Addr} {sl1 : Array (Option Value)}
    (a1 : PySem.W.nsIn K mainGlobals "fits" = some (some (.ref f1)))
    (l1 : K.lookup f1 = some ⟨oc1, od1, .func (PySem.W.fnOf "fits" "fits" (defArgs s1) (defBody s1) (defScope s1) .none kV1 dc1 pm1 an1 cd1 ct1), sl1⟩)
    (c1 : PySem.W.codeIn K cd1 "fits" = true) (k1 : PySem.W.keepIn K (.ref f1) = true)
    {f2 : Addr} {oc2 kV2 dc2 pm2 cd2 ct2 : Value} {od2 an2 : Option Addr} {sl2 : Array (Option Value)}
    (a2 : PySem.W.nsIn K mainGlobals "has" = some (some (.ref f2)))
    (l2 : K.lookup f2 = some ⟨oc2, od2, .func (PySem.W.fnOf "has" "has" (defArgs s2) (defBody s2) (defScope s2) .none kV2 dc2 pm2 an2 cd2 ct2), sl2⟩)
    (c2 : PySem.W.codeIn K cd2 "has" = true) (k2 : PySem.W.keepIn K (.ref f2) = true)
    {f3 : Addr} {oc3 kV3 dc3 pm3 cd3 ct3 : Value} {od3 an3 : Option Addr} {sl3 : Array (Option Value)}
    (a3 : PySem.W.nsIn K mainGlobals "_law_row" = some (some (.ref f3)))
    (l3 : K.lookup f3 = some ⟨oc3, od3, .func (PySem.W.fnOf "_law_row" "_law_row" (defArgs s3) (defBody s3) (defScope s3) .none kV3 dc3 pm3 an3 cd3 ct3), sl3⟩)
    (c3 : PySem.W.codeIn K cd3 "_law_row" = true) (k3 : PySem.W.keepIn K (.ref f3) = true)
    {f4 : Addr} {oc4 kV4 dc4 pm4 cd4 ct4 : Value} {od4 an4 : Option Addr} {sl4 : Array (Option Value)}
    (a4 : PySem.W.nsIn K mainGlobals "_law_equal" = some (some (.ref f4)))
    (l4 : K.lookup f4 = some ⟨oc4, od4, .func (PySem.W.fnOf "_law_equal" "_law_equal" (defArgs s4) (defBody s4) (defScope s4) .none kV4 dc4 pm4 an4 cd4 ct4), sl4⟩)
    (c4 : PySem.W.codeIn K cd4 "_law_equal" = true) (k4 : PySem.W.keepIn K (.ref f4) = true)
    {f5 : Addr} {oc5 kV5 dc5 pm5 cd5 ct5 : Value} {od5 an5 : Option Addr} {sl5 : Array (Option Value)}
    (a5 : PySem.W.nsIn K mainGlobals "_law_says" = some (some (.ref f5)))
    (l5 : K.lookup f5 = some ⟨oc5, od5, .func (PySem.W.fnOf "_law_says" "_law_says" (defArgs s5) (defBody s5) (defScope s5) .none kV5 dc5 pm5 an5 cd5 ct5), sl5⟩)
    (c5 : PySem.W.codeIn K cd5 "_law_says" = true) (k5 : PySem.W.keepIn K (.ref f5) = true)
    {f6 : Addr} {oc6 kV6 dc6 pm6 cd6 ct6 : Value} {od6 an6 : Option Addr} {sl6 : Array (Option Value)}
    (a6 : PySem.W.nsIn K mainGlobals "_law_kind" = some (some (.ref f6)))
    (l6 : K.lookup f6 = some ⟨oc6, od6, .func (PySem.W.fnOf "_law_kind" "_law_kind" (defArgs s6) (defBody s6) (defScope s6) .none kV6 dc6 pm6 an6 cd6 ct6), sl6⟩)
    (c6 : PySem.W.codeIn K cd6 "_law_kind" = true) (k6 : PySem.W.keepIn K (.ref f6) = true)
    {f7 : Addr} {oc7 kV7 dc7 pm7 cd7 ct7 : Value} {od7 an7 : Option Addr} {sl7 : Array (Option Value)}
    (a7 : PySem.W.nsIn K mainGlobals "_law_near" = some (some (.ref f7)))
    (l7 : K.lookup f7 = some ⟨oc7, od7, .func (PySem.W.fnOf "_law_near" "_law_near" (defArgs s7) (defBody s7) (defScope s7) .none kV7 dc7 pm7 an7 cd7 ct7), sl7⟩)
    (c7 : PySem.W.codeIn K cd7 "_law_near" = true) (k7 : PySem.W.keepIn K (.ref f7) = true)
    {f8 : Addr} {oc8 kV8 dc8 pm8 cd8 ct8 : Value} {od8 an8 : Option Addr} {sl8 : Array (Option Value)}
    (a8 : PySem.W.nsIn K mainGlobals "_law_exchanged" = some (some (.ref f8)))
    (l8 : K.lookup f8 = some ⟨oc8, od8, .func (PySem.W.fnOf "_law_exchanged" "_law_exchanged" (defArgs s8) (defBody s8) (defScope s8) .none kV8 dc8 pm8 an8 cd8 ct8), sl8⟩)
    (c8 : PySem.W.codeIn K cd8 "_law_exchanged" = true) (k8 : PySem.W.keepIn K (.ref f8) = true)
    {f9 : Addr} {oc9 kV9 dc9 pm9 cd9 ct9 : Value} {od9 an9 : Option Addr} {sl9 : Array (Option Value)}
    (a9 : PySem.W.nsIn K mainGlobals "_law_join" = some (some (.ref f9)))
    (l9 : K.lookup f9 = some ⟨oc9, od9, .func (PySem.W.fnOf "_law_join" "_law_join" (defArgs s9) (defBody s9) (defScope s9) .none kV9 dc9 pm9 an9 cd9 ct9), sl9⟩)
    (c9 : PySem.W.codeIn K cd9 "_law_join" = true) (k9 : PySem.W.keepIn K (.ref f9) = true)
    {f10 : Addr} {oc10 kV10 dc10 pm10 cd10 ct10 : Value} {od10 an10 : Option Addr} {sl10 : Array (Option Value)}
    (a10 : PySem.W.nsIn K mainGlobals "_law_has" = some (some (.ref f10)))
    (l10 : K.lookup f10 = some ⟨oc10, od10, .func (PySem.W.fnOf "_law_has" "_law_has" (defArgs s10) (defBody s10) (defScope s10) .none kV10 dc10 pm10 an10 cd10 ct10), sl10⟩)
    (c10 : PySem.W.codeIn K cd10 "_law_has" = true) (k10 : PySem.W.keepIn K (.ref f10) = true)
    {f11 : Addr} {oc11 kV11 dc11 pm11 cd11 ct11 : Value} {od11 an11 : Option Addr} {sl11 : Array (Option Value)}
    (a11 : PySem.W.nsIn K mainGlobals "_law_top" = some (some (.ref f11)))
    (l11 : K.lookup f11 = some ⟨oc11, od11, .func (PySem.W.fnOf "_law_top" "_law_top" (defArgs s11) (defBody s11) (defScope s11) .none kV11 dc11 pm11 an11 cd11 ct11), sl11⟩)
    (c11 : PySem.W.codeIn K cd11 "_law_top" = true) (k11 : PySem.W.keepIn K (.ref f11) = true)
    {f12 : Addr} {oc12 kV12 dc12 pm12 cd12 ct12 : Value} {od12 an12 : Option Addr} {sl12 : Array (Option Value)}
    (a12 : PySem.W.nsIn K mainGlobals "_law_fits" = some (some (.ref f12)))
    (l12 : K.lookup f12 = some ⟨oc12, od12, .func (PySem.W.fnOf "_law_fits" "_law_fits" (defArgs s12) (defBody s12) (defScope s12) .none kV12 dc12 pm12 an12 cd12 ct12), sl12⟩)
    (c12 : PySem.W.codeIn K cd12 "_law_fits" = true) (k12 : PySem.W.keepIn K (.ref f12) = true)
    {f13 : Addr} {oc13 kV13 dc13 pm13 cd13 ct13 : Value} {od13 an13 : Option Addr} {sl13 : Array (Option Value)}
    (a13 : PySem.W.nsIn K mainGlobals "_law_value" = some (some (.ref f13)))
    (l13 : K.lookup f13 = some ⟨oc13, od13, .func (PySem.W.fnOf "_law_value" "_law_value" (defArgs s13) (defBody s13) (defScope s13) .none kV13 dc13 pm13 an13 cd13 ct13), sl13⟩)
    (c13 : PySem.W.codeIn K cd13 "_law_value" = true) (k13 : PySem.W.keepIn K (.ref f13) = true)
    {f14 : Addr} {oc14 kV14 dc14 pm14 cd14 ct14 : Value} {od14 an14 : Option Addr} {sl14 : Array (Option Value)}
    (a14 : PySem.W.nsIn K mainGlobals "_law_beyond" = some (some (.ref f14)))
    (l14 : K.lookup f14 = some ⟨oc14, od14, .func (PySem.W.fnOf "_law_beyond" "_law_beyond" (defArgs s14) (defBody s14) (defScope s14) .none kV14 dc14 pm14 an14 cd14 ct14), sl14⟩)
    (c14 : PySem.W.codeIn K cd14 "_law_beyond" = true) (k14 : PySem.W.keepIn K (.ref f14) = true)
    {f15 : Addr} {oc15 kV15 dc15 pm15 cd15 ct15 : Value} {od15 an15 : Option Addr} {sl15 : Array (Option Value)}
    (a15 : PySem.W.nsIn K mainGlobals "_law_kinds" = some (some (.ref f15)))
    (l15 : K.lookup f15 = some ⟨oc15, od15, .func (PySem.W.fnOf "_law_kinds" "_law_kinds" (defArgs s15) (defBody s15) (defScope s15) .none kV15 dc15 pm15 an15 cd15 ct15), sl15⟩)
    (c15 : PySem.W.codeIn K cd15 "_law_kinds" = true) (k15 : PySem.W.keepIn K (.ref f15) = true)
    {f16 : Addr} {oc16 kV16 dc16 pm16 cd16 ct16 : Value} {od16 an16 : Option Addr} {sl16 : Array (Option Value)}
    (a16 : PySem.W.nsIn K mainGlobals "_law_values" = some (some (.ref f16)))
    (l16 : K.lookup f16 = some ⟨oc16, od16, .func (PySem.W.fnOf "_law_values" "_law_values" (defArgs s16) (defBody s16) (defScope s16) .none kV16 dc16 pm16 an16 cd16 ct16), sl16⟩)
    (c16 : PySem.W.codeIn K cd16 "_law_values" = true) (k16 : PySem.W.keepIn K (.ref f16) = true)
    {f17 : Addr} {oc17 kV17 dc17 pm17 cd17 ct17 : Value} {od17 an17 : Option Addr} {sl17 : Array (Option Value)}
    (a17 : PySem.W.nsIn K mainGlobals "law" = some (some (.ref f17)))
    (l17 : K.lookup f17 = some ⟨oc17, od17, .func (PySem.W.fnOf "law" "law" (defArgs s17) (defBody s17) (defScope s17) .none kV17 dc17 pm17 an17 cd17 ct17), sl17⟩)
    (c17 : PySem.W.codeIn K cd17 "law" = true) (k17 : PySem.W.keepIn K (.ref f17) = true)
    (z0 : PySem.W.nsIn K mainGlobals "bool" = some none)
    (z1 : PySem.W.nsIn K mainGlobals "int" = some none)
    (z2 : PySem.W.nsIn K mainGlobals "isinstance" = some none)
    (z3 : PySem.W.nsIn K mainGlobals "len" = some none)
    (z4 : PySem.W.nsIn K mainGlobals "list" = some none)
    (z5 : PySem.W.nsIn K mainGlobals "max" = some none)
    (z6 : PySem.W.nsIn K mainGlobals "min" = some none)
    (z7 : PySem.W.nsIn K mainGlobals "range" = some none)
    (z8 : PySem.W.nsIn K mainGlobals "str" = some none)
    (z9 : PySem.W.nsIn K mainGlobals "tuple" = some none)
    : ∃ fd : FuncData, (∀ (s : Shared) (u : Value), BindsTo s fd ⟨[u], []⟩ [("_law_script", u)]) ∧ ∀ base : Heap, K.In base → base.Ns mainGlobals mg → FnOk l.prog w K mg base (L2.CX l.prog w) depth fa fd ["_law_script"] (spC (mkT K) (callF Tbl turns depth 17)) := by
  have D0 : DefAt Tbl nm blts false K mg 0 "joined" f0 (PySem.W.fnOf "joined" "joined" (defArgs s0) (defBody s0) (defScope s0) .none kV0 dc0 pm0 an0 cd0 ct0) p0 :=
    ⟨s0, n0, b0, PySem.W.mg_of X G a0, fun_mk (st := s0) l0 c0 k0, sc0, fun us hl => (match us, hl with | [_, _], _ => rfl), rfl, ck0⟩
  have D1 : DefAt Tbl nm blts false K mg 1 "fits" f1 (PySem.W.fnOf "fits" "fits" (defArgs s1) (defBody s1) (defScope s1) .none kV1 dc1 pm1 an1 cd1 ct1) p1 :=
    ⟨s1, n1, b1, PySem.W.mg_of X G a1, fun_mk (st := s1) l1 c1 k1, sc1, fun us hl => (match us, hl with | [_, _], _ => rfl), rfl, ck1⟩
  have D2 : DefAt Tbl nm blts false K mg 2 "has" f2 (PySem.W.fnOf "has" "has" (defArgs s2) (defBody s2) (defScope s2) .none kV2 dc2 pm2 an2 cd2 ct2) p2 :=
    ⟨s2, n2, b2, PySem.W.mg_of X G a2, fun_mk (st := s2) l2 c2 k2, sc2, fun us hl => (match us, hl with | [_, _], _ => rfl), rfl, ck2⟩
  have D3 : DefAt Tbl nm blts false K mg 3 "_law_row" f3 (PySem.W.fnOf "_law_row" "_law_row" (defArgs s3) (defBody s3) (defScope s3) .none kV3 dc3 pm3 an3 cd3 ct3) p3 :=
    ⟨s3, n3, b3, PySem.W.mg_of X G a3, fun_mk (st := s3) l3 c3 k3, sc3, fun us hl => (match us, hl with | [_, _, _], _ => rfl), rfl, ck3⟩
  have D4 : DefAt Tbl nm blts false K mg 4 "_law_equal" f4 (PySem.W.fnOf "_law_equal" "_law_equal" (defArgs s4) (defBody s4) (defScope s4) .none kV4 dc4 pm4 an4 cd4 ct4) p4 :=
    ⟨s4, n4, b4, PySem.W.mg_of X G a4, fun_mk (st := s4) l4 c4 k4, sc4, fun us hl => (match us, hl with | [_, _], _ => rfl), rfl, ck4⟩
  have D5 : DefAt Tbl nm blts false K mg 5 "_law_says" f5 (PySem.W.fnOf "_law_says" "_law_says" (defArgs s5) (defBody s5) (defScope s5) .none kV5 dc5 pm5 an5 cd5 ct5) p5 :=
    ⟨s5, n5, b5, PySem.W.mg_of X G a5, fun_mk (st := s5) l5 c5 k5, sc5, fun us hl => (match us, hl with | [_, _], _ => rfl), rfl, ck5⟩
  have D6 : DefAt Tbl nm blts false K mg 6 "_law_kind" f6 (PySem.W.fnOf "_law_kind" "_law_kind" (defArgs s6) (defBody s6) (defScope s6) .none kV6 dc6 pm6 an6 cd6 ct6) p6 :=
    ⟨s6, n6, b6, PySem.W.mg_of X G a6, fun_mk (st := s6) l6 c6 k6, sc6, fun us hl => (match us, hl with | [_, _, _, _, _], _ => rfl), rfl, ck6⟩
  have D7 : DefAt Tbl nm blts false K mg 7 "_law_near" f7 (PySem.W.fnOf "_law_near" "_law_near" (defArgs s7) (defBody s7) (defScope s7) .none kV7 dc7 pm7 an7 cd7 ct7) p7 :=
    ⟨s7, n7, b7, PySem.W.mg_of X G a7, fun_mk (st := s7) l7 c7 k7, sc7, fun us hl => (match us, hl with | [_, _, _, _], _ => rfl), rfl, ck7⟩
  have D8 : DefAt Tbl nm blts false K mg 8 "_law_exchanged" f8 (PySem.W.fnOf "_law_exchanged" "_law_exchanged" (defArgs s8) (defBody s8) (defScope s8) .none kV8 dc8 pm8 an8 cd8 ct8) p8 :=
    ⟨s8, n8, b8, PySem.W.mg_of X G a8, fun_mk (st := s8) l8 c8 k8, sc8, fun us hl => (match us, hl with | [_, _, _], _ => rfl), rfl, ck8⟩
  have D9 : DefAt Tbl nm blts false K mg 9 "_law_join" f9 (PySem.W.fnOf "_law_join" "_law_join" (defArgs s9) (defBody s9) (defScope s9) .none kV9 dc9 pm9 an9 cd9 ct9) p9 :=
    ⟨s9, n9, b9, PySem.W.mg_of X G a9, fun_mk (st := s9) l9 c9 k9, sc9, fun us hl => (match us, hl with | [_, _], _ => rfl), rfl, ck9⟩
  have D10 : DefAt Tbl nm blts false K mg 10 "_law_has" f10 (PySem.W.fnOf "_law_has" "_law_has" (defArgs s10) (defBody s10) (defScope s10) .none kV10 dc10 pm10 an10 cd10 ct10) p10 :=
    ⟨s10, n10, b10, PySem.W.mg_of X G a10, fun_mk (st := s10) l10 c10 k10, sc10, fun us hl => (match us, hl with | [_, _], _ => rfl), rfl, ck10⟩
  have D11 : DefAt Tbl nm blts false K mg 11 "_law_top" f11 (PySem.W.fnOf "_law_top" "_law_top" (defArgs s11) (defBody s11) (defScope s11) .none kV11 dc11 pm11 an11 cd11 ct11) p11 :=
    ⟨s11, n11, b11, PySem.W.mg_of X G a11, fun_mk (st := s11) l11 c11 k11, sc11, fun us hl => (match us, hl with | [_], _ => rfl), rfl, ck11⟩
  have D12 : DefAt Tbl nm blts false K mg 12 "_law_fits" f12 (PySem.W.fnOf "_law_fits" "_law_fits" (defArgs s12) (defBody s12) (defScope s12) .none kV12 dc12 pm12 an12 cd12 ct12) p12 :=
    ⟨s12, n12, b12, PySem.W.mg_of X G a12, fun_mk (st := s12) l12 c12 k12, sc12, fun us hl => (match us, hl with | [_, _], _ => rfl), rfl, ck12⟩
  have D13 : DefAt Tbl nm blts false K mg 13 "_law_value" f13 (PySem.W.fnOf "_law_value" "_law_value" (defArgs s13) (defBody s13) (defScope s13) .none kV13 dc13 pm13 an13 cd13 ct13) p13 :=
    ⟨s13, n13, b13, PySem.W.mg_of X G a13, fun_mk (st := s13) l13 c13 k13, sc13, fun us hl => (match us, hl with | [_, _, _], _ => rfl), rfl, ck13⟩
  have D14 : DefAt Tbl nm blts false K mg 14 "_law_beyond" f14 (PySem.W.fnOf "_law_beyond" "_law_beyond" (defArgs s14) (defBody s14) (defScope s14) .none kV14 dc14 pm14 an14 cd14 ct14) p14 :=
    ⟨s14, n14, b14, PySem.W.mg_of X G a14, fun_mk (st := s14) l14 c14 k14, sc14, fun us hl => (match us, hl with | [_, _, _, _], _ => rfl), rfl, ck14⟩
  have D15 : DefAt Tbl nm blts false K mg 15 "_law_kinds" f15 (PySem.W.fnOf "_law_kinds" "_law_kinds" (defArgs s15) (defBody s15) (defScope s15) .none kV15 dc15 pm15 an15 cd15 ct15) p15 :=
    ⟨s15, n15, b15, PySem.W.mg_of X G a15, fun_mk (st := s15) l15 c15 k15, sc15, fun us hl => (match us, hl with | [_], _ => rfl), rfl, ck15⟩
  have D16 : DefAt Tbl nm blts false K mg 16 "_law_values" f16 (PySem.W.fnOf "_law_values" "_law_values" (defArgs s16) (defBody s16) (defScope s16) .none kV16 dc16 pm16 an16 cd16 ct16) p16 :=
    ⟨s16, n16, b16, PySem.W.mg_of X G a16, fun_mk (st := s16) l16 c16 k16, sc16, fun us hl => (match us, hl with | [_, _], _ => rfl), rfl, ck16⟩
  have D17 : DefAt Tbl nm blts false K mg 17 "law" f17 (PySem.W.fnOf "law" "law" (defArgs s17) (defBody s17) (defScope s17) .none kV17 dc17 pm17 an17 cd17 ct17) p17 :=
    ⟨s17, n17, b17, PySem.W.mg_of X G a17, fun_mk (st := s17) l17 c17 k17, sc17, fun us hl => (match us, hl with | [_], _ => rfl), rfl, ck17⟩
  have H : Top (mkT K) Tbl nm blts false K mg := by
    refine ⟨rfl, fun x hx => ?_, fun q => (nomatch q), fun f x hx => ?_⟩
    · have hx : x ∈ blts := by simpa using hx
      simp only [blts, List.mem_cons, List.not_mem_nil, or_false] at hx
      rcases hx with rfl | rfl | rfl | rfl | rfl | rfl | rfl | rfl | rfl | rfl
      · exact PySem.W.mg_none_of X G z0
      · exact PySem.W.mg_none_of X G z1
      · exact PySem.W.mg_none_of X G z2
      · exact PySem.W.mg_none_of X G z3
      · exact PySem.W.mg_none_of X G z4
      · exact PySem.W.mg_none_of X G z5
      · exact PySem.W.mg_none_of X G z6
      · exact PySem.W.mg_none_of X G z7
      · exact PySem.W.mg_none_of X G z8
      · exact PySem.W.mg_none_of X G z9
    · match f, hx with
      | 0, hx => exact (Option.some.inj hx) ▸ ⟨_, _, _, D0⟩
      | 1, hx => exact (Option.some.inj hx) ▸ ⟨_, _, _, D1⟩
      | 2, hx => exact (Option.some.inj hx) ▸ ⟨_, _, _, D2⟩
      | 3, hx => exact (Option.some.inj hx) ▸ ⟨_, _, _, D3⟩
      | 4, hx => exact (Option.some.inj hx) ▸ ⟨_, _, _, D4⟩
      | 5, hx => exact (Option.some.inj hx) ▸ ⟨_, _, _, D5⟩
      | 6, hx => exact (Option.some.inj hx) ▸ ⟨_, _, _, D6⟩
      | 7, hx => exact (Option.some.inj hx) ▸ ⟨_, _, _, D7⟩
      | 8, hx => exact (Option.some.inj hx) ▸ ⟨_, _, _, D8⟩
      | 9, hx => exact (Option.some.inj hx) ▸ ⟨_, _, _, D9⟩
      | 10, hx => exact (Option.some.inj hx) ▸ ⟨_, _, _, D10⟩
      | 11, hx => exact (Option.some.inj hx) ▸ ⟨_, _, _, D11⟩
      | 12, hx => exact (Option.some.inj hx) ▸ ⟨_, _, _, D12⟩
      | 13, hx => exact (Option.some.inj hx) ▸ ⟨_, _, _, D13⟩
      | 14, hx => exact (Option.some.inj hx) ▸ ⟨_, _, _, D14⟩
      | 15, hx => exact (Option.some.inj hx) ▸ ⟨_, _, _, D15⟩
      | 16, hx => exact (Option.some.inj hx) ▸ ⟨_, _, _, D16⟩
      | 17, hx => exact (Option.some.inj hx) ▸ ⟨_, _, _, D17⟩
      | n + 18, hx => exact nomatch (show (none : Option PySem.Str) = some x from hx)
  exact law_fn l.prog w depth turns 17 H D17 hfa
theorem main : ∀ ns : List Int, ns.length ≤ 63 → ∃ k sto, callF Tbl turns depth 17 [.lst (ns.map .int)] [] = .ok k (.bl true) sto := fun ns h => main0 h
end K05
open PySem PySem.W PyProof.Rows in
set_option maxRecDepth 100000 in
set_option maxHeartbeats 0 in
theorem PySem.Challenge.cw_besideandthrough_k05_joined_is_least_holds : PySem.Challenge.rw_besideandthrough_k05_joined_is_least.Holds := by
  w_on; o_law; k_head; (case hw => w_witness2)
  k_fill
  refine BT.walk_bt (y := "_law_script") (mk := K05.mkT) (fun _ => rfl) (l := PySem.Challenge.rw_besideandthrough_k05_joined_is_least) rfl rfl ⟨rfl, by decide, by decide⟩ K05.main (fun w h Y => PySem.W.kIn_of Y) ?F
  case F =>
    intro w mg fa h KX G hmg
    refine' K05.law_ok KX G hmg ?a0 ?l0 ?c0 ?k0 ?a1 ?l1 ?c1 ?k1 ?a2 ?l2 ?c2 ?k2 ?a3 ?l3 ?c3 ?k3 ?a4 ?l4 ?c4 ?k4 ?a5 ?l5 ?c5 ?k5 ?a6 ?l6 ?c6 ?k6 ?a7 ?l7 ?c7 ?k7 ?a8 ?l8 ?c8 ?k8 ?a9 ?l9 ?c9 ?k9 ?a10 ?l10 ?c10 ?k10 ?a11 ?l11 ?c11 ?k11 ?a12 ?l12 ?c12 ?k12 ?a13 ?l13 ?c13 ?k13 ?a14 ?l14 ?c14 ?k14 ?a15 ?l15 ?c15 ?k15 ?a16 ?l16 ?c16 ?k16 ?a17 ?l17 ?c17 ?k17 ?z0 ?z1 ?z2 ?z3 ?z4 ?z5 ?z6 ?z7 ?z8 ?z9
    (case a0 => k_is)
    (case l0 => k_is)
    (case c0 => k_is)
    (case k0 => k_is)
    (case a1 => k_is)
    (case l1 => k_is)
    (case c1 => k_is)
    (case k1 => k_is)
    (case a2 => k_is)
    (case l2 => k_is)
    (case c2 => k_is)
    (case k2 => k_is)
    (case a3 => k_is)
    (case l3 => k_is)
    (case c3 => k_is)
    (case k3 => k_is)
    (case a4 => k_is)
    (case l4 => k_is)
    (case c4 => k_is)
    (case k4 => k_is)
    (case a5 => k_is)
    (case l5 => k_is)
    (case c5 => k_is)
    (case k5 => k_is)
    (case a6 => k_is)
    (case l6 => k_is)
    (case c6 => k_is)
    (case k6 => k_is)
    (case a7 => k_is)
    (case l7 => k_is)
    (case c7 => k_is)
    (case k7 => k_is)
    (case a8 => k_is)
    (case l8 => k_is)
    (case c8 => k_is)
    (case k8 => k_is)
    (case a9 => k_is)
    (case l9 => k_is)
    (case c9 => k_is)
    (case k9 => k_is)
    (case a10 => k_is)
    (case l10 => k_is)
    (case c10 => k_is)
    (case k10 => k_is)
    (case a11 => k_is)
    (case l11 => k_is)
    (case c11 => k_is)
    (case k11 => k_is)
    (case a12 => k_is)
    (case l12 => k_is)
    (case c12 => k_is)
    (case k12 => k_is)
    (case a13 => k_is)
    (case l13 => k_is)
    (case c13 => k_is)
    (case k13 => k_is)
    (case a14 => k_is)
    (case l14 => k_is)
    (case c14 => k_is)
    (case k14 => k_is)
    (case a15 => k_is)
    (case l15 => k_is)
    (case c15 => k_is)
    (case k15 => k_is)
    (case a16 => k_is)
    (case l16 => k_is)
    (case c16 => k_is)
    (case k16 => k_is)
    (case a17 => k_is)
    (case l17 => k_is)
    (case c17 => k_is)
    (case k17 => k_is)
    (case z0 => k_is)
    (case z1 => k_is)
    (case z2 => k_is)
    (case z3 => k_is)
    (case z4 => k_is)
    (case z5 => k_is)
    (case z6 => k_is)
    (case z7 => k_is)
    (case z8 => k_is)
    (case z9 => k_is)
end
