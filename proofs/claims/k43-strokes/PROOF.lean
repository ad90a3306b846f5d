import PyProof.Rows.All
import Wide.All
import OpenK.AllK
import Wide.FinOn
import HandS.ForMost
import HandS.More
import HandS.WordsExc
import HandS.Defaults
import HandS.Flow
import HandS.Style
import HandS.TupAny
import HandS.TupMul
import HandS.Deep
import HandS.Zip
import HandS.Walk
import HandS.IsInst
import HandS.NoneIn
import HandS.Wide
import HandS.Codes
import HandS.HeadEnd
import HandS.HeadHook2
import KE.KStateDown
import HandS.Head0
import HandS.Head1
import HandS.Head2
import HandS.HeadHook1
import PySem.Challenge.RW_pathsmilled_k43_whole_strokes
set_option Elab.async false
set_option linter.all false
set_option maxRecDepth 100000
/-! The evaluator: deep values, code by slots, outcomes. -/
namespace PV
open PySem

/-- deep values -/
inductive D where
  | non | bl (b : Bool) | int (i : Int) | str (x : Str) | tup (xs : List D) | lst (xs : List D) | rol (xs : List D) | loc (n : Nat)
instance : Inhabited D := ⟨.non⟩
/-- an object of the store -/
inductive SO where
  | lst (xs : List D)
abbrev Sto := List SO
/-- a slot: a value, or a list of the frame's own -/
inductive SV where
  | val (d : D) | own (xs : List D)
abbrev Env := List (Option SV)
inductive Out (α : Type) where
  | ok (a : α) (s : Sto) | err
def Out.bind {α β : Type} (o : Out α) (f : α → Sto → Out β) : Out β := match o with
  | .ok a s => f a s
  | .err => .err
def lift {α : Type} (o : Option α) (s : Sto) : Out α := match o with
  | some a => .ok a s
  | none => .err
abbrev LINE : Nat := 16777216

/-! ### operations on values -/
mutual
def toPy : D → PyData
  | .non => .none
  | .bl b => .bool b
  | .int i => .int i
  | .str x => .str x
  | .tup xs => .tuple (toPys xs)
  | .lst xs => .list (toPys xs)
  | .rol _ => .none
  | .loc _ => .none
def toPys : List D → List PyData
  | [] => []
  | d :: ds => toPy d :: toPys ds
end
mutual
/-- no object of the store within -/
def pure? : D → Bool
  | .tup xs => pures? xs
  | .lst xs => pures? xs
  | .rol _ => false
  | .loc _ => false
  | _ => true
def pures? : List D → Bool
  | [] => true
  | d :: ds => pure? d && pures? ds
end
mutual
/-- no list within -/
def nolst? : D → Bool
  | .tup xs => nolsts? xs
  | .lst _ => false
  | .rol _ => false
  | _ => true
def nolsts? : List D → Bool
  | [] => true
  | d :: ds => nolst? d && nolsts? ds
end
def nolstS? : Sto → Bool
  | [] => true
  | .lst xs :: r => nolsts? xs && nolstS? r
def shp (d : D) : Bool := pure? d && SeqAt.shaped (toPy d)
def eqD (a b : D) : Option Bool := if shp a = true ∧ shp b = true then some (PyData.eqv (toPy a) (toPy b)) else none
def addD : D → D → Option D
  | .int i, .int j => some (.int (i + j))
  | .str x, .str y => if x.length + y.length ≤ LINE then some (.str (x ++ y)) else none
  | .tup xs, .tup ys => if xs.length + ys.length ≤ LINE then some (.tup (xs ++ ys)) else none
  | .lst xs, .lst ys => if xs.length + ys.length ≤ LINE then some (.lst (xs ++ ys)) else none
  | _, _ => none
def subD : D → D → Option D
  | .int i, .int j => some (.int (i - j))
  | _, _ => none
def mulD : D → D → Option D
  | .int i, .int j => if (-18446744073709551616 < i ∧ i < 18446744073709551616) ∨ (-18446744073709551616 < j ∧ j < 18446744073709551616) then some (.int (i * j)) else none
  | _, _ => none
def modD : D → D → Option D
  | .int i, .int j => if 0 < j then some (.int (i % j)) else none
  | _, _ => none
def divD : D → D → Option D
  | .int i, .int j => if 0 < j ∧ j < 1073741824 then some (.int (i / j)) else none
  | _, _ => none
inductive BOp where
  | add | sub | mul | mod | div
  deriving DecidableEq
def binD : BOp → D → D → Option D
  | .add => addD
  | .sub => subD
  | .mul => mulD
  | .mod => modD
  | .div => divD
def BOp.py : BOp → Operator
  | .add => .Add
  | .sub => .Sub
  | .mul => .Mult
  | .mod => .Mod
  | .div => .FloorDiv
inductive COp where
  | eq | ne | lt | le | gt | ge | is | isn
  deriving DecidableEq
def COp.py : COp → CmpOp
  | .eq => .Eq
  | .ne => .NotEq
  | .lt => .Lt
  | .le => .LtE
  | .gt => .Gt
  | .ge => .GtE
  | .is => .Is
  | .isn => .IsNot
def isNonD : D → Bool
  | .non => true
  | _ => false
def isD : D → D → Option Bool
  | x, .non => some (isNonD x)
  | .bl a, .bl b => some (decide (a = b))
  | _, _ => none
def icmp (g : Int → Int → Bool) : D → D → Option Bool
  | .int i, .int j => some (g i j)
  | _, _ => none
def cmpD : COp → D → D → Option Bool
  | .eq => eqD
  | .ne => fun a b => (eqD a b).map (!·)
  | .lt => icmp fun i j => decide (i < j)
  | .le => icmp fun i j => decide (i ≤ j)
  | .gt => icmp fun i j => decide (j < i)
  | .ge => icmp fun i j => decide (j ≤ i)
  | .is => isD
  | .isn => fun a b => (isD a b).map (!·)
def truthD : D → Option Bool
  | .non => some false
  | .bl b => some b
  | .int i => some (i != 0)
  | .str x => if x.length ≤ LINE then some ((x.length : Int) != 0) else none
  | .tup xs => some (!xs.isEmpty)
  | .lst xs => some (!xs.isEmpty)
  | .rol _ => none
  | .loc _ => none
def idxD : D → D → Option D
  | .lst xs, .int i => L2.atI xs i
  | .tup xs, .int i => L2.atI xs i
  | .str z, .int i => if z.length ≤ LINE then (L2.atI z.cps.toList i).map fun c => .str ⟨#[c]⟩ else none
  | _, _ => none
def cut {α : Type} (xs : List α) (lo hi : Option Int) : List α := (xs.drop (HT.sIx xs.length 0 lo)).take (HT.sIx xs.length xs.length hi - HT.sIx xs.length 0 lo)
def slcD (d : D) (lo hi : Option Int) : Option D := match d with
  | .lst xs => some (.lst (cut xs lo hi))
  | .rol xs => some (.lst (cut xs lo hi))
  | .tup xs => some (.tup (cut xs lo hi))
  | _ => none
def revD : D → Option D
  | .lst xs => some (.lst xs.reverse)
  | _ => none
def lenD : D → Option D
  | .lst xs => some (.int xs.length)
  | .rol xs => some (.int xs.length)
  | .tup xs => some (.int xs.length)
  | .str x => if x.length ≤ LINE then some (.int x.length) else none
  | _ => none
inductive Ty where
  | int | bool | str | tup | lst
  deriving DecidableEq
def Ty.name : Ty → String
  | .int => "int"
  | .bool => "bool"
  | .str => "str"
  | .tup => "tuple"
  | .lst => "list"
def isiD : D → Ty → Option Bool
  | .non, _ => some false
  | .bl _, t => some (t == .bool || t == .int)
  | .int _, t => some (t == .int)
  | .str _, t => some (t == .str)
  | .tup _, t => some (t == .tup)
  | .lst _, t => some (t == .lst)
  | .rol _, _ => none
  | .loc _, _ => none
inductive Blt where
  | len | int | abs | max | min | sum | any | all | tup
  deriving DecidableEq
def Blt.name : Blt → String
  | .len => "len"
  | .int => "int"
  | .abs => "abs"
  | .max => "max"
  | .min => "min"
  | .sum => "sum"
  | .any => "any"
  | .all => "all"
  | .tup => "tuple"
def ints? : List D → Option (List Int)
  | [] => some []
  | .int i :: r => (ints? r).map (i :: ·)
  | _ :: _ => none
def bools? : List D → Option (List Bool)
  | [] => some []
  | .bl i :: r => (bools? r).map (i :: ·)
  | _ :: _ => none
def maxI : List Int → Int
  | [] => 0
  | [x] => x
  | x :: r => max x (maxI r)
def minI : List Int → Int
  | [] => 0
  | [x] => x
  | x :: r => min x (minI r)
def fLen : List D → Option D
  | [d] => lenD d
  | _ => none
def fInt : List D → Option D
  | [.int i] => some (.int i)
  | _ => none
def fAbs : List D → Option D
  | [.int i] => some (.int (if i < 0 then -i else i))
  | _ => none
def fMax : List D → Option D
  | [.int i, .int j] => some (.int (if j > i then j else i))
  | [.lst ds] => match ints? ds with
    | some (x :: r) => some (.int (maxI (x :: r)))
    | _ => none
  | _ => none
def fMin : List D → Option D
  | [.int i, .int j] => some (.int (if j < i then j else i))
  | [.lst ds] => match ints? ds with
    | some (x :: r) => some (.int (minI (x :: r)))
    | _ => none
  | _ => none
def fSum : List D → Option D
  | [.lst ds] => (ints? ds).map fun l => .int l.sum
  | _ => none
def fAny : List D → Option D
  | [.lst ds] => (bools? ds).map fun l => .bl (l.any id)
  | _ => none
def fAll : List D → Option D
  | [.lst ds] => (bools? ds).map fun l => .bl (l.all id)
  | _ => none
def fTup : List D → Option D
  | [.lst ds] => some (.tup ds)
  | [.tup ds] => some (.tup ds)
  | _ => none
def bltD : Blt → List D → Option D
  | .len => fLen
  | .int => fInt
  | .abs => fAbs
  | .max => fMax
  | .min => fMin
  | .sum => fSum
  | .any => fAny
  | .all => fAll
  | .tup => fTup
def deref (s : Sto) : D → D
  | .loc n => match s[n]? with
    | some (.lst ds) => .lst ds
    | none => .loc n
  | d => d

/-! ### code -/
mutual
inductive Tg where
  | nm (i : Nat) | tp (ts : Tgs)
inductive Tgs where
  | nil | c (t : Tg) (ts : Tgs)
end
mutual
inductive Ex where
  | var (i : Nat) | int (i : Int) | str (x : Str) | bl (b : Bool) | non | gl (k : Nat)
  | tup (es : Exs) | fz (f : Fx) | alloc (f : Fx)
  | bin (op : BOp) (a b : Ex) | neg (a : Ex) | not (a : Ex)
  | cmp (op : COp) (a b : Ex) | chn (op op' : COp) (a b c : Ex)
  | bop (and : Bool) (es : Exs) | ite (c a b : Ex)
  | idx (a i : Ex) | slc (a : Ex) (lo hi : OEx) | rev (a : Ex)
  | call (f : Nat) (es : Exs) | blt (b : Blt) (es : Exs) | isi (e : Ex) (t : Ty)
  | popL (i : Nat) (e : OEx)
inductive Exs where
  | nil | c (e : Ex) (es : Exs)
inductive OEx where
  | n | s (e : Ex)
inductive Fx where
  | dsp (es : Exs) | cp1 (elt : Ex) (tg : Tg) (it : Src) (cond : OEx) (vs : List Nat)
  | cp2 (elt : Ex) (tg : Tg) (it : Src) (cond : OEx) (tg1 : Tg) (it1 : Src) (cond1 : OEx) (vs vs1 : List Nat)
  | lof (e : Ex)
inductive Src where
  | seq (e : Ex) | rg1 (a : Ex) | rg2 (a b : Ex) | rg3 (a b c : Ex) | enm (e : Ex) | zip (a b : Ex)
end
mutual
inductive Sm where
  | asg (tg : Tg) (e : Ex) | own (i : Nat) (f : Fx) | par (is : List Nat) (ps : Pxs)
  | ite (c : Ex) (a b : Sms) | for (tg : Tg) (it : Src) (b : Sms) | whl (c : Ex) (b : Sms)
  | ret (e : Ex) | retN | pass | brk | cnt | ex (e : Ex)
  | app (i : Nat) (e : Ex) | ext (i : Nat) (e : Ex) | setV (i : Nat) (k e : Ex) | augV (i : Nat) (k : Ex) (op : BOp) (e : Ex)
  | pop (tg : Tg) (i : Nat) (e : OEx) | aug (i : Nat) (op : BOp) (e : Ex) | never
inductive Sms where
  | nil | c (s : Sm) (ss : Sms)
inductive Pxs where
  | nil | v (e : Ex) (ps : Pxs) | o (f : Fx) (ps : Pxs)
end

/-! ### evaluation -/
def truthS (s : Sto) (d : D) : Out Bool := lift (truthD (deref s d)) s
mutual
def bindT : Tg → D → Env → Option Env
  | .nm i, d, env => some (env.set i (some (.val d)))
  | .tp ts, .tup ds, env => bindTs ts ds env
  | .tp _, _, _ => none
def bindTs : Tgs → List D → Env → Option Env
  | .nil, [], env => some env
  | .c t ts, d :: ds, env => match bindT t d env with
    | some env' => bindTs ts ds env'
    | none => none
  | _, _, _ => none
end
def noOwn (env : Env) : Env := env.map fun
  | some (.own _) => none
  | x => x
def wipeE (env : Env) : List Nat → Env
  | [] => env
  | v :: vs => (wipeE env vs).set v none
/-- the lists that f gives, one behind the other -/
def flatF (f : D → Sto → Out (List D)) : List D → Sto → Out (List D)
  | [], s => .ok [] s
  | d :: ds, s => (f d s).bind fun xs s1 => (flatF f ds s1).bind fun ys s2 => .ok (xs ++ ys) s2
def isOwn (env : Env) : Ex → Bool
  | .var i => match env[i]? with
    | some (some (.own _)) => true
    | _ => false
  | .bop _ _ => true
  | _ => false
def borrows (env : Env) : Exs → Bool
  | .nil => false
  | .c e es => isOwn env e || borrows env es
def rangeL (lo c : Int) (n : Nat) : List D := (List.range n).map fun i => D.int (lo + (i : Nat) * c)
def rng1? : D → Option (List D)
  | .int j => if -4611686018427387904 ≤ j ∧ j < 4611686018427387904 then some (rangeL 0 1 j.toNat) else none
  | _ => none
def rng2? : D → D → Option (List D)
  | .int i, .int j => if -4611686018427387904 ≤ i ∧ i < 4611686018427387904 ∧ -4611686018427387904 ≤ j ∧ j < 4611686018427387904 then some (rangeL i 1 (j - i).toNat) else none
  | _, _ => none
def rng3? : D → D → D → Option (List D)
  | _, _, _ => none
def items? : D → Option (List D)
  | .lst ds => some ds
  | .tup ds => some ds
  | .str x => some (x.cps.toList.map fun c => .str ⟨#[c]⟩)
  | _ => none
def enum? : D → Option (List D)
  | .lst ds => some ((List.range ds.length).zipWith (fun (i : Nat) d => D.tup [.int i, d]) ds)
  | .tup ds => some ((List.range ds.length).zipWith (fun (i : Nat) d => D.tup [.int i, d]) ds)
  | _ => none
def zip? : D → D → Option (List D)
  | .lst xs, .lst ys => some (xs.zipWith (fun a b => D.tup [a, b]) ys)
  | .tup xs, .tup ys => some (xs.zipWith (fun a b => D.tup [a, b]) ys)
  | _, _ => none
section
variable (cf : Nat → List D → Sto → Out D) (gs : List D)
mutual
def ev (o : Bool) : Ex → Env → Sto → Out D
  | .var i, env, s => match env[i]? with
    | some (some (.val d)) => .ok d s
    | some (some (.own ds)) => if o = true then .ok (.lst ds) s else .err
    | _ => .err
  | .int i, _, s => .ok (.int i) s
  | .str x, _, s => .ok (.str x) s
  | .bl b, _, s => .ok (.bl b) s
  | .non, _, s => .ok .non s
  | .gl k, _, s => lift gs[k]? s
  | .tup es, env, s => (evL false es env s).bind fun ds s => .ok (.tup ds) s
  | .fz f, env, s => (evF f env s).bind fun ds s => .ok (.lst ds) s
  | .alloc f, env, s => (evF f env s).bind fun ds s => .ok (.loc s.length) (s ++ [.lst ds])
  | .bin op a b, env, s => (ev true a env s).bind fun x s => (ev true b env s).bind fun y s => lift (binD op (deref s x) (deref s y)) s
  | .neg a, env, s => (ev true a env s).bind fun x s => match x with
    | .int i => .ok (.int (-i)) s
    | _ => .err
  | .not a, env, s => (ev true a env s).bind fun x s => (truthS s x).bind fun b s => .ok (.bl (!b)) s
  | .cmp op a b, env, s => (ev true a env s).bind fun x s => (ev true b env s).bind fun y s => (lift (cmpD op (deref s x) (deref s y)) s).bind fun b s => .ok (.bl b) s
  | .chn op op' a b c, env, s => (ev true a env s).bind fun x s => (ev true b env s).bind fun y s => (lift (cmpD op (deref s x) (deref s y)) s).bind fun t s =>
    if t = true then (ev true c env s).bind fun z s => (lift (cmpD op' (deref s y) (deref s z)) s).bind fun b s => .ok (.bl b) s else .ok (.bl false) s
  | .bop and es, env, s => evB o and es env s
  | .ite c a b, env, s => (ev true c env s).bind fun x s => (truthS s x).bind fun t s => if t = true then ev false a env s else ev false b env s
  | .idx a i, env, s => (ev true a env s).bind fun x s => (ev true i env s).bind fun y s => lift (idxD (deref s x) y) s
  | .slc a lo hi, env, s => (ev true a env s).bind fun x s => (evO lo env s).bind fun l s => (evO hi env s).bind fun h s => lift (slcD (deref s x) l h) s
  | .rev a, env, s => (ev true a env s).bind fun x s => lift (revD (deref s x)) s
  | .call f es, env, s => (evL true es env s).bind fun ds s => (cf f ds s).bind fun d s =>
    if borrows env es = true then (if nolst? d = true ∧ nolstS? s = true then .ok d s else .err) else .ok d s
  | .blt b es, env, s => (evL true es env s).bind fun ds s => lift (bltD b (ds.map (deref s))) s
  | .isi e t, env, s => (ev true e env s).bind fun x s => (lift (isiD (deref s x) t) s).bind fun b s => .ok (.bl b) s
  | .popL i e, env, s => match env[i]? with
    | some (some (.val (.loc n))) => (evO e env s).bind fun k s => match s[n]? with
      | some (.lst ds) => (match k with
        | none => (match ds[ds.length - 1]? with
          | some d => .ok d (s.set n (.lst ds.dropLast))
          | none => .err)
        | some k => if -9223372036854775808 ≤ k ∧ k < 9223372036854775808 then (match L2.ixN ds.length k with
          | some j => (match ds[j]? with
            | some d => .ok d (s.set n (.lst (ds.eraseIdx j)))
            | none => .err)
          | none => .err) else .err)
      | none => .err
    | _ => .err
def evL (o : Bool) : Exs → Env → Sto → Out (List D)
  | .nil, _, s => .ok [] s
  | .c e es, env, s => (ev o e env s).bind fun d s => (evL o es env s).bind fun ds s => .ok (d :: ds) s
def evB (o and : Bool) : Exs → Env → Sto → Out D
  | .nil, _, _ => .err
  | .c e .nil, env, s => ev o e env s
  | .c e (.c e' es), env, s => (ev o e env s).bind fun x s => (truthS s x).bind fun t s => if t = and then evB o and (.c e' es) env s else .ok x s
def evO : OEx → Env → Sto → Out (Option Int)
  | .n, _, s => .ok none s
  | .s e, env, s => (ev true e env s).bind fun x s => match x with
    | .int i => .ok (some i) s
    | _ => .err
def evC : OEx → Env → Sto → Out Bool
  | .n, _, s => .ok true s
  | .s e, env, s => (ev true e env s).bind fun x s => truthS s x
def evF : Fx → Env → Sto → Out (List D)
  | .dsp es, env, s => evL false es env s
  | .cp1 elt tg it cond vs, env, s => (evI true it env s).bind fun xs s => (flatF (fun d s => match bindT tg d (wipeE (noOwn env) vs) with
    | none => .err
    | some env1 => (evC cond env1 s).bind fun t s => if t = true then (ev false elt env1 s).bind fun y s => .ok [y] s else .ok [] s) xs s).bind fun ys s =>
      if ys.length ≤ LINE then .ok ys s else .err
  | .cp2 elt tg it cond tg1 it1 cond1 vs vs1, env, s => (evI true it env s).bind fun xs s => (flatF (fun d s => match bindT tg d (wipeE (noOwn env) vs) with
    | none => .err
    | some env1 => (evC cond env1 s).bind fun t s => if t = true then (evI false it1 env1 s).bind fun zs s => flatF (fun d s => match bindT tg1 d (wipeE env1 vs1) with
      | none => .err
      | some env2 => (evC cond1 env2 s).bind fun t s => if t = true then (ev false elt env2 s).bind fun y s => .ok [y] s else .ok [] s) zs s else .ok [] s) xs s).bind fun ys s =>
      if ys.length ≤ LINE then .ok ys s else .err
  | .lof e, env, s => (ev true e env s).bind fun x s => match deref s x with
    | .lst ds => .ok ds s
    | .tup ds => .ok ds s
    | _ => .err
def evI (o : Bool) : Src → Env → Sto → Out (List D)
  | .seq e, env, s => (ev o e env s).bind fun x s => lift (items? x) s
  | .rg1 a, env, s => (ev true a env s).bind fun x s => lift (rng1? x) s
  | .rg2 a b, env, s => (ev true a env s).bind fun x s => (ev true b env s).bind fun y s => lift (rng2? x y) s
  | .rg3 a b c, env, s => (ev true a env s).bind fun x s => (ev true b env s).bind fun y s => (ev true c env s).bind fun z s => lift (rng3? x y z) s
  | .enm e, env, s => (ev o e env s).bind fun x s => lift (enum? x) s
  | .zip a b, env, s => (ev o a env s).bind fun x s => (ev o b env s).bind fun y s => lift (zip? x y) s
end

/-! ### statements -/
inductive Flow where
  | nx (env : Env) | ret (d : D) | bk (env : Env) | ct (env : Env)
def frz : Option SV → Option SV
  | some (.own ds) => some (.val (.lst ds))
  | x => x
def frzAt (env : Env) (i : Nat) : Env := match env[i]? with
  | some (some (.own ds)) => env.set i (some (.val (.lst ds)))
  | _ => env
def frzE (env : Env) : Ex → Env
  | .var i => frzAt env i
  | _ => env
def frzI (env : Env) : Src → Env
  | .seq e => frzE env e
  | .enm e => frzE env e
  | .zip a b => frzE (frzE env a) b
  | _ => env
def frzR (env : Env) : Ex → Env
  | .var i => frzAt env i
  | _ => env
def forF (f : D → Env → Sto → Out Flow) : List D → Env → Sto → Out Flow
  | [], env, s => .ok (.nx env) s
  | d :: ds, env, s => (f d env s).bind fun fl s => match fl with
    | .nx env' => forF f ds env' s
    | .ct env' => forF f ds env' s
    | .bk env' => .ok (.nx env') s
    | .ret d => .ok (.ret d) s
def whileN (c : Env → Sto → Out Bool) (b : Env → Sto → Out Flow) : Nat → Env → Sto → Out Flow
  | 0, _, _ => .err
  | n + 1, env, s => (c env s).bind fun t s => if t = true then (b env s).bind fun fl s => (match fl with
    | .nx env' => whileN c b n env' s
    | .ct env' => whileN c b n env' s
    | .bk env' => .ok (.nx env') s
    | .ret d => .ok (.ret d) s) else .ok (.nx env) s
open Classical in
noncomputable def whileF (c : Env → Sto → Out Bool) (b : Env → Sto → Out Flow) (env : Env) (s : Sto) : Out Flow :=
  if h : ∃ n, whileN c b n env s ≠ .err then whileN c b (Classical.choose h) env s else .err
def setAll (env : Env) : List Nat → List SV → Option Env
  | [], [] => some env
  | i :: is, v :: vs => setAll (env.set i (some v)) is vs
  | _, _ => none
def evP : Pxs → Env → Sto → Out (List SV)
  | .nil, _, s => .ok [] s
  | .v e ps, env, s => (ev cf gs false e env s).bind fun d s => (evP ps env s).bind fun r s => .ok (.val d :: r) s
  | .o f ps, env, s => (evF cf gs f env s).bind fun d s => (evP ps env s).bind fun r s => .ok (.own d :: r) s
/-- a list that slot i holds changes -/
def chg (env : Env) (i : Nat) (s : Sto) (f : List D → Option (List D)) : Out Flow := match env[i]? with
  | some (some (.own ds)) => (match f ds with
    | some ds' => .ok (.nx (env.set i (some (.own ds')))) s
    | none => .err)
  | some (some (.val (.loc n))) => (match s[n]? with
    | some (.lst ds) => (match f ds with
      | some ds' => .ok (.nx env) (s.set n (.lst ds'))
      | none => .err)
    | none => .err)
  | _ => .err
mutual
noncomputable def exec : Sm → Env → Sto → Out Flow
  | .asg tg e, env, s => (ev cf gs false e env s).bind fun d s => match bindT tg d env with
    | some env' => .ok (.nx env') s
    | none => .err
  | .own i f, env, s => (evF cf gs f env s).bind fun ds s => .ok (.nx (env.set i (some (.own ds)))) s
  | .par is ps, env, s => (evP cf gs ps env s).bind fun vs s => match setAll env is vs with
    | some env' => .ok (.nx env') s
    | none => .err
  | .ite c a b, env, s => (ev cf gs true c env s).bind fun x s => (truthS s x).bind fun t s => if t = true then execs a env s else execs b env s
  | .for tg it b, env, s => (evI cf gs false it (frzI env it) s).bind fun xs s => forF (fun d env s => match bindT tg d env with
    | some env1 => execs b env1 s
    | none => .err) xs (frzI env it) s
  | .whl c b, env, s => whileF (fun env s => (ev cf gs true c env s).bind fun x s => truthS s x) (fun env s => execs b env s) env s
  | .ret e, env, s => (ev cf gs false e (frzR env e) s).bind fun d s => .ok (.ret d) s
  | .retN, _, s => .ok (.ret .non) s
  | .pass, env, s => .ok (.nx env) s
  | .brk, env, s => .ok (.bk env) s
  | .cnt, env, s => .ok (.ct env) s
  | .ex e, env, s => (ev cf gs false e env s).bind fun _ s => .ok (.nx env) s
  | .app i e, env, s => (ev cf gs false e env s).bind fun d s => chg env i s fun ds => if ds.length < LINE then some (ds ++ [d]) else none
  | .ext i e, env, s => (ev cf gs true e env s).bind fun d s => (match d with
    | .lst zs => chg env i s fun ds => if ds.length + zs.length ≤ LINE then some (ds ++ zs) else none
    | _ => .err)
  | .setV i k e, env, s => (ev cf gs false e env s).bind fun d s => (ev cf gs true k env s).bind fun x s => (match x with
    | .int k => chg env i s fun ds => (L2.ixN ds.length k).map fun j => ds.set j d
    | _ => .err)
  | .augV i k op e, env, s => .err
  | .pop tg i e, env, s => .err
  | .aug i op e, env, s => .err
  | .never, _, _ => .err
noncomputable def execs : Sms → Env → Sto → Out Flow
  | .nil, env, s => .ok (.nx env) s
  | .c st r, env, s => (exec st env s).bind fun fl s => match fl with
    | .nx env' => execs r env' s
    | .ret d => .ok (.ret d) s
    | .bk env' => .ok (.bk env') s
    | .ct env' => .ok (.ct env') s
end
end
/-- a def: the slots, the parameters, the body -/
structure Fn where
  N : List Str
  ps : List Str
  body : Sms
def startE (n : Nat) (ds : List D) : Env := ds.map (fun d => some (.val d)) ++ List.replicate (n - ds.length) none
def retOf : Out Flow → Out D
  | .ok (.ret d) s => .ok d s
  | .ok (.nx _) s => .ok .non s
  | _ => .err
/-- the program's defs, by levels of calls -/
noncomputable def callF (fs : List Fn) (gs : List D) : Nat → Nat → List D → Sto → Out D
  | 0, _, _, _ => .err
  | n + 1, i, ds, s => match fs[i]? with
    | some f => if ds.length = f.ps.length then retOf (execs (callF fs gs n) gs f.body (startE f.N.length ds) s) else .err
    | none => .err
end PV
set_option maxRecDepth 100000
/-! How deep values lie in the abstract heap. -/
namespace PV
open PySem PySem.Spec PyProof.Rows L2

/-- a tuple, a list of the written part -/
def KT (K : PySem.W.Frag) (a : Addr) (xs : List V) : Prop :=
  ∃ (o : Obj) (its : Array Value) (n : Nat), K.lookup a = some o ∧ o.cls = .type "tuple" ∧ o.data = .seq its n ∧ its.size ≤ sizeLine ∧ Vals xs its.toList
def KL (K : PySem.W.Frag) (a : Addr) (xs : List V) : Prop :=
  ∃ (o : Obj) (its : Array Value) (n : Nat), K.lookup a = some o ∧ o.cls = .type "list" ∧ o.dict = none ∧ o.data = .seq its n ∧ its.size ≤ sizeLine ∧ Vals xs its.toList
def Tp (K : PySem.W.Frag) (S : Addr → Prop) (H : Hp) (a : Addr) (xs : List V) : Prop := (S a ∧ H a = some (.tup xs)) ∨ KT K a xs
def Rl (K : PySem.W.Frag) (S : Addr → Prop) (H : Hp) (a : Addr) (xs : List V) : Prop := (S a ∧ Rd H a (.lst xs)) ∨ KL K a xs
mutual
inductive Rep (K : PySem.W.Frag) (S : Addr → Prop) (φ : List Addr) (H : Hp) : V → D → Prop
  | non : Rep K S φ H .non .non
  | bl (b : Bool) : Rep K S φ H (.bl b) (.bl b)
  | int (i : Int) : Rep K S φ H (.int i) (.int i)
  | str (x : Str) : Rep K S φ H (.str x) (.str x)
  | tup {a : Addr} {xs : List V} {ds : List D} : Tp K S H a xs → RepL K S φ H xs ds → Rep K S φ H (.ref a) (.tup ds)
  | lst {a : Addr} {xs : List V} {ds : List D} : S a → H a = some (.lst xs) → RepL K S φ H xs ds → Rep K S φ H (.ref a) (.lst ds)
  | rol {a : Addr} {xs : List V} {ds : List D} : Rl K S H a xs → RepL K S φ H xs ds → Rep K S φ H (.ref a) (.rol ds)
  | loc {a : Addr} {n : Nat} : φ[n]? = some a → Rep K S φ H (.ref a) (.loc n)
inductive RepL (K : PySem.W.Frag) (S : Addr → Prop) (φ : List Addr) (H : Hp) : List V → List D → Prop
  | nil : RepL K S φ H [] []
  | cons {v : V} {vs : List V} {d : D} {ds : List D} : Rep K S φ H v d → RepL K S φ H vs ds → RepL K S φ H (v :: vs) (d :: ds)
end
section
variable {K : PySem.W.Frag} {S S' S2 : Addr → Prop} {φ φ' φ2 : List Addr} {H H' H2 : Hp} {v : V} {d : D} {vs ws : List V} {ds es : List D}
theorem Tp.sq {a : Addr} (h : Tp K S H a vs) : SqT K H a vs := by
  rcases h with ⟨_, h⟩ | h
  · exact .inl (.inl h)
  · exact .inr h
theorem Rl.sq {a : Addr} (h : Rl K S H a vs) : SqL K H a vs := by
  rcases h with ⟨_, h⟩ | h
  · exact .inl h
  · exact .inr h
theorem RepL.length (h : RepL K S φ H vs ds) : vs.length = ds.length := by
  induction vs generalizing ds with
  | nil => cases h; rfl
  | cons v vs ih => cases h with
    | cons _ h2 => simp [ih h2]
theorem RepL.get {i : Nat} (h : RepL K S φ H vs ds) {d : D} (e : ds[i]? = some d) : ∃ v, vs[i]? = some v ∧ Rep K S φ H v d := by
  induction vs generalizing ds i with
  | nil => cases h; simp at e
  | cons v vs ih => cases h with
    | cons h1 h2 =>
      cases i with
      | zero => simp at e; subst e; exact ⟨v, rfl, h1⟩
      | succ i => simp at e; obtain ⟨v', e', r⟩ := ih h2 e; exact ⟨v', by simpa using e', r⟩
theorem RepL.append (h : RepL K S φ H vs ds) (h' : RepL K S φ H ws es) : RepL K S φ H (vs ++ ws) (ds ++ es) := by
  induction vs generalizing ds with
  | nil => cases h; exact h'
  | cons v vs ih => cases h with
    | cons h1 h2 => exact .cons h1 (ih h2)
theorem RepL.take (n : Nat) (h : RepL K S φ H vs ds) : RepL K S φ H (vs.take n) (ds.take n) := by
  induction vs generalizing ds n with
  | nil => cases h; simp; exact .nil
  | cons v vs ih => cases h with
    | cons h1 h2 =>
      cases n with
      | zero => exact .nil
      | succ n => exact .cons h1 (ih n h2)
theorem RepL.drop (n : Nat) (h : RepL K S φ H vs ds) : RepL K S φ H (vs.drop n) (ds.drop n) := by
  induction vs generalizing ds n with
  | nil => cases h; simp; exact .nil
  | cons v vs ih => cases h with
    | cons h1 h2 =>
      cases n with
      | zero => exact .cons h1 h2
      | succ n => exact ih n h2
theorem RepL.reverse (h : RepL K S φ H vs ds) : RepL K S φ H vs.reverse ds.reverse := by
  induction vs generalizing ds with
  | nil => cases h; exact .nil
  | cons v vs ih => cases h with
    | cons h1 h2 => simp only [List.reverse_cons]; exact (ih h2).append (.cons h1 .nil)
theorem RepL.dropLast (h : RepL K S φ H vs ds) : RepL K S φ H vs.dropLast ds.dropLast := by
  rw [List.dropLast_eq_take, List.dropLast_eq_take, h.length]; exact h.take _
theorem RepL.eraseIdx (n : Nat) (h : RepL K S φ H vs ds) : RepL K S φ H (vs.eraseIdx n) (ds.eraseIdx n) := by
  rw [List.eraseIdx_eq_take_drop_succ, List.eraseIdx_eq_take_drop_succ]; exact (h.take n).append (h.drop (n + 1))
theorem RepL.set (n : Nat) (h : RepL K S φ H vs ds) (r : Rep K S φ H v d) : RepL K S φ H (vs.set n v) (ds.set n d) := by
  induction vs generalizing ds n with
  | nil => cases h; exact .nil
  | cons v vs ih => cases h with
    | cons h1 h2 =>
      cases n with
      | zero => exact .cons r h2
      | succ n => exact .cons h1 (ih n h2)

/-- from one state to a later one: what stood stands, but the store's objects; what is stable now was so, or is new -/
structure Stp (S : Addr → Prop) (φ : List Addr) (H : Hp) (S' : Addr → Prop) (φ' : List Addr) (H' : Hp) : Prop where
  keep : ∀ a o, H a = some o → a ∉ φ → H' a = some o
  some : ∀ a, H a ≠ none → H' a ≠ none
  sub : ∀ a, S a → S' a
  new : ∀ a, S' a → S a ∨ H a = none
  phi : ∃ ψ, φ' = φ ++ ψ ∧ ∀ a ∈ ψ, H a = none
theorem Stp.refl : Stp S φ H S φ H := ⟨fun _ _ h _ => h, fun _ h => h, fun _ h => h, fun _ h => .inl h, [], by simp⟩
theorem Stp.free (x : Stp S φ H S' φ' H') {a : Addr} (h : H' a = none) : H a = none := by
  cases e : H a with
  | none => rfl
  | some o => exact absurd h (x.some a (by rw [e]; simp))
theorem Stp.trans (x : Stp S φ H S' φ' H') (y : Stp S' φ' H' S2 φ2 H2) : Stp S φ H S2 φ2 H2 := by
  obtain ⟨ψ, e, hf⟩ := x.phi
  obtain ⟨ψ2, e2, hf2⟩ := y.phi
  subst e
  refine ⟨fun a o h ha => ?_, fun a h => y.some a (x.some a h), fun a h => y.sub a (x.sub a h), fun a h => ?_, ψ ++ ψ2, by rw [e2, List.append_assoc], fun a ha => ?_⟩
  · refine y.keep a o (x.keep a o h ha) fun hm => ?_
    rcases List.mem_append.mp hm with q | q
    · exact ha q
    · have := hf a q; rw [h] at this; cases this
  · rcases y.new a h with q | q
    · exact x.new a q
    · exact .inr (x.free q)
  · rcases List.mem_append.mp ha with q | q
    · exact hf a q
    · exact x.free (hf2 a q)
/-- a state -/
structure SI (K : PySem.W.Frag) (S : Addr → Prop) (φ : List Addr) (H : Hp) (st : Sto) : Prop where
  dom : ∀ a, S a → H a ≠ none
  dis : ∀ a ∈ φ, ¬ S a
  len : φ.length = st.length
  nd : φ.Nodup
  obj : ∀ (n : Nat) a ds, φ[n]? = some a → st[n]? = some (.lst ds) → ∃ vs, H a = some (.lst vs) ∧ RepL K S φ H vs ds
mutual
theorem Rep.tr (hS : ∀ a, S a → H' a = H a) (sub : ∀ a, S a → S' a) (hφ : ∃ ψ, φ' = φ ++ ψ) : ∀ {v : V} {d : D}, Rep K S φ H v d → Rep K S' φ' H' v d
  | _, _, .non => .non
  | _, _, .bl b => .bl b
  | _, _, .int i => .int i
  | _, _, .str z => .str z
  | _, _, .tup h r => .tup (by
      rcases h with ⟨hs, h⟩ | h
      · exact .inl ⟨sub _ hs, (hS _ hs).trans h⟩
      · exact .inr h) (RepL.tr hS sub hφ r)
  | _, _, .lst hs h r => .lst (sub _ hs) ((hS _ hs).trans h) (RepL.tr hS sub hφ r)
  | _, _, .rol h r => .rol (by
      rcases h with ⟨hs, h | ⟨o, h⟩⟩ | h
      · exact .inl ⟨sub _ hs, .inl ((hS _ hs).trans h)⟩
      · exact .inl ⟨sub _ hs, .inr ⟨o, (hS _ hs).trans h⟩⟩
      · exact .inr h) (RepL.tr hS sub hφ r)
  | _, _, .loc h => .loc (by
      obtain ⟨ψ, e⟩ := hφ
      rw [e, List.getElem?_append_left (List.getElem?_eq_some_iff.mp h).1]; exact h)
theorem RepL.tr (hS : ∀ a, S a → H' a = H a) (sub : ∀ a, S a → S' a) (hφ : ∃ ψ, φ' = φ ++ ψ) : ∀ {vs : List V} {ds : List D}, RepL K S φ H vs ds → RepL K S' φ' H' vs ds
  | _, _, .nil => .nil
  | _, _, .cons h1 h2 => .cons (Rep.tr hS sub hφ h1) (RepL.tr hS sub hφ h2)
end
theorem Stp.same (x : Stp S φ H S' φ' H') (dom : ∀ a, S a → H a ≠ none) (dj : ∀ a ∈ φ, ¬ S a) : ∀ a, S a → H' a = H a := fun a h => by
  cases e : H a with
  | none => exact absurd e (dom a h)
  | some o => exact x.keep a o e fun q => dj a q h
theorem Rep.mono (x : Stp S φ H S' φ' H') {st : Sto} (I : SI K S φ H st) (r : Rep K S φ H v d) : Rep K S' φ' H' v d :=
  r.tr (x.same I.dom I.dis) x.sub (let ⟨ψ, e, _⟩ := x.phi; ⟨ψ, e⟩)
theorem RepL.mono (x : Stp S φ H S' φ' H') {st : Sto} (I : SI K S φ H st) (r : RepL K S φ H vs ds) : RepL K S' φ' H' vs ds :=
  r.tr (x.same I.dom I.dis) x.sub (let ⟨ψ, e, _⟩ := x.phi; ⟨ψ, e⟩)
mutual
/-- what stands in the written part alone stands everywhere -/
theorem Rep.ofK : ∀ {v : V} {d : D}, Rep K (fun _ => False) [] (fun _ => none) v d → Rep K S φ H v d
  | _, _, .non => .non
  | _, _, .bl b => .bl b
  | _, _, .int i => .int i
  | _, _, .str z => .str z
  | _, _, .tup h r => .tup (by
      rcases h with ⟨hs, _⟩ | h
      · exact hs.elim
      · exact .inr h) (RepL.ofK r)
  | _, _, .lst hs _ _ => hs.elim
  | _, _, .rol h r => .rol (by
      rcases h with ⟨hs, _⟩ | h
      · exact hs.elim
      · exact .inr h) (RepL.ofK r)
  | _, _, .loc h => by simp at h
theorem RepL.ofK : ∀ {vs : List V} {ds : List D}, RepL K (fun _ => False) [] (fun _ => none) vs ds → RepL K S φ H vs ds
  | _, _, .nil => .nil
  | _, _, .cons h1 h2 => .cons (Rep.ofK h1) (RepL.ofK h2)
end
/-- a value, or (where o) a tracked list that need not be stable -/
def RepM (o : Bool) (K : PySem.W.Frag) (S : Addr → Prop) (φ : List Addr) (H : Hp) (v : V) (d : D) : Prop :=
  Rep K S φ H v d ∨ (o = true ∧ ∃ a vs ds, v = .ref a ∧ d = .lst ds ∧ a ∉ φ ∧ H a = some (.lst vs) ∧ RepL K S φ H vs ds)
theorem RepM.of (h : Rep K S φ H v d) {o : Bool} : RepM o K S φ H v d := .inl h
theorem RepM.val (h : RepM false K S φ H v d) : Rep K S φ H v d := by
  rcases h with h | ⟨e, _⟩
  · exact h
  · cases e
theorem RepM.up {o : Bool} (h : RepM o K S φ H v d) : RepM true K S φ H v d := by
  rcases h with h | ⟨_, h⟩
  · exact .inl h
  · exact .inr ⟨rfl, h⟩
theorem RepM.mono {o : Bool} (x : Stp S φ H S' φ' H') {st : Sto} (I : SI K S φ H st) (h : RepM o K S φ H v d) : RepM o K S' φ' H' v d := by
  rcases h with h | ⟨e, a, vs, ds, e1, e2, ha, hh, r⟩
  · exact .inl (h.mono x I)
  · refine .inr ⟨e, a, vs, ds, e1, e2, fun q => ?_, x.keep a _ hh ha, r.mono x I⟩
    obtain ⟨ψ, eψ, hf⟩ := x.phi
    rw [eψ] at q
    rcases List.mem_append.mp q with q | q
    · exact ha q
    · have := hf a q; rw [hh] at this; cases this
/-- a value to be read: its lists need not be stable at the outermost -/
def RepD (K : PySem.W.Frag) (S : Addr → Prop) (φ : List Addr) (H : Hp) (v : V) (d : D) : Prop :=
  Rep K S φ H v d ∨ ∃ a vs ds, v = .ref a ∧ d = .lst ds ∧ H a = some (.lst vs) ∧ RepL K S φ H vs ds
theorem RepM.rd {o : Bool} {st : Sto} (I : SI K S φ H st) (h : RepM o K S φ H v d) : RepD K S φ H v (deref st d) := by
  rcases h with h | ⟨_, a, vs, ds, e1, e2, ha, hh, r⟩
  · cases h with
    | non => exact .inl .non
    | bl b => exact .inl (.bl b)
    | int i => exact .inl (.int i)
    | str z => exact .inl (.str z)
    | tup h r => exact .inl (.tup h r)
    | lst hs h r => exact .inl (.lst hs h r)
    | rol h r => exact .inl (.rol h r)
    | @loc a n h =>
      cases e : st[n]? with
      | none =>
        have q : deref st (.loc n) = .loc n := by simp only [deref, e]
        rw [q]; exact .inl (.loc h)
      | some o =>
        cases o with
        | lst ds =>
          have q : deref st (.loc n) = .lst ds := by simp only [deref, e]
          obtain ⟨vs, hv, r⟩ := I.obj n a ds h e
          exact .inr ⟨a, vs, ds, rfl, q, hv, r⟩
  · subst e2
    exact .inr ⟨a, vs, ds, e1, rfl, hh, r⟩
theorem RepM.rd0 {o : Bool} (h : RepM o K S φ H v d) : RepD K S φ H v d := by
  rcases h with h | ⟨_, a, vs, ds, e1, e2, ha, hh, r⟩
  · exact .inl h
  · exact .inr ⟨a, vs, ds, e1, e2, hh, r⟩
theorem RepD.int {i : Int} (h : RepD K S φ H v (.int i)) : v = .int i := by
  rcases h with h | ⟨_, _, _, _, e, _⟩
  · cases h; rfl
  · cases e
theorem RepD.bl {b : Bool} (h : RepD K S φ H v (.bl b)) : v = .bl b := by
  rcases h with h | ⟨_, _, _, _, e, _⟩
  · cases h; rfl
  · cases e
theorem RepD.str {b : Str} (h : RepD K S φ H v (.str b)) : v = .str b := by
  rcases h with h | ⟨_, _, _, _, e, _⟩
  · cases h; rfl
  · cases e
theorem RepD.non (h : RepD K S φ H v .non) : v = .non := by
  rcases h with h | ⟨_, _, _, _, e, _⟩
  · cases h; rfl
  · cases e
theorem RepD.tup (h : RepD K S φ H v (.tup ds)) : ∃ a vs, v = .ref a ∧ SqT K H a vs ∧ RepL K S φ H vs ds ∧ Rep K S φ H v (.tup ds) := by
  rcases h with h | ⟨_, _, _, _, e, _⟩
  · cases h with
    | tup h r => exact ⟨_, _, rfl, h.sq, r, .tup h r⟩
  · cases e
theorem RepD.lst (h : RepD K S φ H v (.lst ds)) : ∃ a vs, v = .ref a ∧ H a = some (.lst vs) ∧ RepL K S φ H vs ds := by
  rcases h with h | ⟨a, vs, _, e1, e, h, r⟩
  · cases h with
    | lst hs h r => exact ⟨_, _, rfl, h, r⟩
  · cases e; exact ⟨a, vs, e1, h, r⟩
theorem RepD.rol (h : RepD K S φ H v (.rol ds)) : ∃ a vs, v = .ref a ∧ SqL K H a vs ∧ RepL K S φ H vs ds := by
  rcases h with h | ⟨a, vs, _, e1, e, h, r⟩
  · cases h with
    | rol h r => exact ⟨_, _, rfl, h.sq, r⟩
  · cases e

/-! ### new objects -/
def add (S : Addr → Prop) (p : Addr) : Addr → Prop := fun a => S a ∨ a = p
section
variable {st : Sto}
theorem SI.fresh (I : SI K S φ H st) {p : Addr} (h : H p = none) : ¬ S p ∧ p ∉ φ := by
  refine ⟨fun q => I.dom p q h, fun q => ?_⟩
  obtain ⟨n, hn, e⟩ := List.getElem_of_mem q
  have hs : n < st.length := by rw [← I.len]; exact hn
  cases e2 : st[n] with
  | lst ds =>
    obtain ⟨vs, hv, _⟩ := I.obj n p ds (by rw [List.getElem?_eq_getElem hn, e]) (by rw [List.getElem?_eq_getElem hs, e2])
    rw [h] at hv; cases hv
theorem Stp.alloc {p : Addr} {o : HO} (h : H p = none) : Stp S φ H (add S p) φ (upd H p o) := by
  refine ⟨fun a o' e _ => ?_, fun a e => ?_, fun a e => .inl e, fun a e => ?_, [], by simp⟩
  · rw [upd_ne (ne_of_none e h)]; exact e
  · by_cases q : a = p
    · rw [q, upd_same]; simp
    · rw [upd_ne q]; exact e
  · rcases e with e | e
    · exact .inl e
    · exact .inr (by rw [e]; exact h)
theorem SI.alloc (I : SI K S φ H st) {p : Addr} {o : HO} (h : H p = none) : SI K (add S p) φ (upd H p o) st := by
  have x : Stp S φ H (add S p) φ (upd H p o) := Stp.alloc h
  obtain ⟨_, hp⟩ := I.fresh h
  refine ⟨fun a e => ?_, fun a e q => ?_, I.len, I.nd, fun n a ds e1 e2 => ?_⟩
  · rcases e with e | e
    · exact x.some a (I.dom a e)
    · rw [e, upd_same]; simp
  · rcases q with q | q
    · exact I.dis a e q
    · exact hp (q ▸ e)
  · obtain ⟨vs, hv, r⟩ := I.obj n a ds e1 e2
    exact ⟨vs, by rw [upd_ne (ne_of_none hv h)]; exact hv, r.mono x I⟩
/-- .. not stable -/
theorem Stp.alloc0 {p : Addr} {o : HO} (h : H p = none) : Stp S φ H S φ (upd H p o) := by
  refine ⟨fun a o' e _ => ?_, fun a e => ?_, fun a e => e, fun a e => .inl e, [], by simp⟩
  · rw [upd_ne (ne_of_none e h)]; exact e
  · by_cases q : a = p
    · rw [q, upd_same]; simp
    · rw [upd_ne q]; exact e
theorem SI.alloc0 (I : SI K S φ H st) {p : Addr} {o : HO} (h : H p = none) : SI K S φ (upd H p o) st := by
  have x : Stp S φ H S φ (upd H p o) := Stp.alloc0 h
  refine ⟨fun a e => x.some a (I.dom a e), I.dis, I.len, I.nd, fun n a ds e1 e2 => ?_⟩
  obtain ⟨vs, hv, r⟩ := I.obj n a ds e1 e2
  exact ⟨vs, by rw [upd_ne (ne_of_none hv h)]; exact hv, r.mono x I⟩
/-- a new tuple, a new list as a value -/
theorem rep_tup {p : Addr} {vs : List V} (I : SI K S φ H st) (h : H p = none) (r : RepL K S φ H vs ds) : Rep K (add S p) φ (upd H p (.tup vs)) (.ref p) (.tup ds) :=
  .tup (.inl ⟨.inr rfl, upd_same⟩) (r.mono (Stp.alloc h) I)
theorem rep_lst {p : Addr} {vs : List V} (I : SI K S φ H st) (h : H p = none) (r : RepL K S φ H vs ds) : Rep K (add S p) φ (upd H p (.lst vs)) (.ref p) (.lst ds) :=
  .lst (.inr rfl) upd_same (r.mono (Stp.alloc h) I)
end

/-! ### the frame -/
structure EI (K : PySem.W.Frag) (S : Addr → Prop) (φ : List Addr) (H : Hp) (σ : L2.St) (env : Env) : Prop where
  len : env.length = σ.length
  val : ∀ (i : Nat) d, env[i]? = some (some (.val d)) → ∃ v, σ[i]? = some (some v) ∧ Rep K S φ H v d
  own : ∀ (i : Nat) ds, env[i]? = some (some (.own ds)) → ∃ a vs, σ[i]? = some (some (.ref a)) ∧ H a = some (.lst vs) ∧ ¬ S a ∧ a ∉ φ ∧ RepL K S φ H vs ds
  inj : ∀ (i j : Nat) ds es a, env[i]? = some (some (.own ds)) → env[j]? = some (some (.own es)) → σ[i]? = some (some (.ref a)) → σ[j]? = some (some (.ref a)) → i = j
theorem EI.mono {σ : L2.St} {env : Env} (E : EI K S φ H σ env) (x : Stp S φ H S' φ' H') {st : Sto} (I : SI K S φ H st) : EI K S' φ' H' σ env := by
  refine ⟨E.len, fun i d e => ?_, fun i ds e => ?_, E.inj⟩
  · obtain ⟨v, h1, h2⟩ := E.val i d e
    exact ⟨v, h1, h2.mono x I⟩
  · obtain ⟨a, vs, h1, h2, h3, h4, h5⟩ := E.own i ds e
    refine ⟨a, vs, h1, x.keep a _ h2 h4, fun q => ?_, fun q => ?_, h5.mono x I⟩
    · rcases x.new a q with q | q
      · exact h3 q
      · rw [h2] at q; cases q
    · obtain ⟨ψ, eψ, hf⟩ := x.phi
      rw [eψ] at q
      rcases List.mem_append.mp q with q | q
      · exact h4 q
      · have := hf a q; rw [h2] at this; cases this
end

/-! ### outcomes -/
def FinE (K : PySem.W.Frag) (o : Bool) (S : Addr → Prop) (φ : List Addr) (H : Hp) (Q : VK) : Out D → Prop
  | .ok d st' => ∀ v H' S' φ', Stp S φ H S' φ' H' → SI K S' φ' H' st' → RepM o K S' φ' H' v d → Q v H'
  | .err => False
def FinL (K : PySem.W.Frag) (o : Bool) (S : Addr → Prop) (φ : List Addr) (H : Hp) (Q : List V → Hp → Prop) : Out (List D) → Prop
  | .ok ds st' => ∀ vs H' S' φ', Stp S φ H S' φ' H' → SI K S' φ' H' st' → Paired (RepM o K S' φ' H') vs ds → Q vs H'
  | .err => False
def FinB {α : Type} (K : PySem.W.Frag) (S : Addr → Prop) (φ : List Addr) (H : Hp) (Q : α → Hp → Prop) : Out α → Prop
  | .ok b st' => ∀ H' S' φ', Stp S φ H S' φ' H' → SI K S' φ' H' st' → Q b H'
  | .err => False
section
variable {K : PySem.W.Frag} {S S' : Addr → Prop} {φ φ' : List Addr} {H H' : Hp}
theorem FinE.mono {o : Bool} {Q Q' : VK} {m : Out D} (h : FinE K o S φ H Q m) (hq : ∀ v H, Q v H → Q' v H) : FinE K o S φ H Q' m := by
  cases m with
  | ok d st => exact fun v H' S' φ' a b c => hq v H' (h v H' S' φ' a b c)
  | err => exact h
theorem FinE.stp {o : Bool} {Q : VK} {m : Out D} (x : Stp S φ H S' φ' H') (h : FinE K o S φ H Q m) : FinE K o S' φ' H' Q m := by
  cases m with
  | ok d st => exact fun v H2 S2 φ2 a b c => h v H2 S2 φ2 (x.trans a) b c
  | err => exact h
theorem FinL.stp {o : Bool} {Q : List V → Hp → Prop} {m : Out (List D)} (x : Stp S φ H S' φ' H') (h : FinL K o S φ H Q m) : FinL K o S' φ' H' Q m := by
  cases m with
  | ok d st => exact fun v H2 S2 φ2 a b c => h v H2 S2 φ2 (x.trans a) b c
  | err => exact h
theorem FinB.stp {α : Type} {Q : α → Hp → Prop} {m : Out α} (x : Stp S φ H S' φ' H') (h : FinB K S φ H Q m) : FinB K S' φ' H' Q m := by
  cases m with
  | ok d st => exact fun H2 S2 φ2 a b => h H2 S2 φ2 (x.trans a) b
  | err => exact h
end
end PV
set_option maxRecDepth 100000
set_option maxHeartbeats 4000000
/-! enumerate of a tuple; what a for walks where a list or a tuple may come. -/
namespace PV
open PySem PySem.Spec PyProof.Rows L2
open PySem.AutoSeq1 (wpAny_loadPart')
theorem meets_enumerate_newT (l : Addr) (items : Array Value) (n : Nat) (dct : Option Addr) (sl : Array (Option Value)) :
    Meets (Builtin.«enumerate.__new__» ⟨[.type "enumerate", .ref l], []⟩) (fun _ R s => s.heap.get? l = some { cls := .type "tuple", dict := dct, data := .seq items n, slots := sl } ∧
      R (.ok (.ret (.ref (s.heap.push { cls := .type "tuple_iterator", data := .fields #[.ref l, .int 0 0] }).objs.size)))
        { s with heap := (s.heap.push { cls := .type "tuple_iterator", data := .fields #[.ref l, .int 0 0] }).push { cls := .type "enumerate", data := .fields #[.none, .bool false, .ref s.heap.objs.size, rawInt 0, .none, .none] } }) :=
  .of_wp fun prog w A R s h => by
    obtain ⟨hp, g, d, tk, os⟩ := s; obtain ⟨hl, h⟩ := h
    have hsub := sub_enumerate
    have hL : Heap.IsTuple (Shared.heap ⟨hp, g, d, tk, os⟩) l items := ⟨_, hl, rfl, n, rfl⟩
    wp_walk using wpAny_loadPart' hl
    refine wpAny_stack_any fun st => wpAny_pure ?_
    split
    · rename_i c _ _ _ _ _
      cases (c == Value.type "enumerate")
      · wp_walk using wpAny_loadPart' hl, wpAny_pyIter_tuple hL
        exact ⟨_, rfl, h⟩
      · wp_walk using wpAny_loadPart' hl, wpAny_pyIter_tuple hL
        exact ⟨_, rfl, h⟩
    · wp_walk using wpAny_loadPart' hl, wpAny_pyIter_tuple hL
      exact ⟨_, rfl, h⟩
section
variable {prog : Program} {w : World} {A : Around} {E : Value → Shared → Prop} {s : Shared}
theorem call_enumerate_tuple {l : Addr} {items : Array Value} {Q : Value → Shared → Prop} (hL : s.heap.IsTuple l items)
    (h : ∀ h', IsEnum h' (s.heap.objs.size + 1) s.heap.objs.size 0 .none → h'.IsTupleIter s.heap.objs.size l 0 → h'.objs.size = s.heap.objs.size + 2 →
      (∀ b o, s.heap.get? b = some o → h'.get? b = some o) → Q (.ref (s.heap.objs.size + 1)) { s with heap := h' }) :
    wpAny (model prog w) A (call (.type "enumerate") [.ref l]) Q E s := by
  obtain ⟨⟨c, dct, dt, sl⟩, hl, hc, n, hd⟩ := hL
  replace hc : c = .type "tuple" := hc
  replace hd : dt = .seq items n := hd
  subst hc hd
  refine callType_new F.called_enumerate (by decide) (F.typeCall_enumerate_1 _) (F.newCall_enumerate_1 _) (fun obj => F.args_object_init_2 obj _) F.entry_enumerate_new
    (meets_enumerate_newT l items n dct sl) ⟨hl, ?_⟩
  have hz : (s.heap.push { cls := .type "tuple_iterator", data := .fields #[.ref l, .int 0 0] }).objs.size = s.heap.objs.size + 1 := Heap.size_push ..
  show _ ∧ _
  rw [hz]
  have he : IsEnum ((s.heap.push { cls := .type "tuple_iterator", data := .fields #[.ref l, .int 0 0] }).push
      { cls := .type "enumerate", data := .fields #[.none, .bool false, .ref s.heap.objs.size, rawInt 0, .none, .none] }) (s.heap.objs.size + 1) s.heap.objs.size 0 .none := by
    have := Heap.get?_push_size (s.heap.push { cls := .type "tuple_iterator", data := .fields #[.ref l, .int 0 0] })
      (o := { cls := .type "enumerate", data := .fields #[.none, .bool false, .ref s.heap.objs.size, rawInt 0, .none, .none] }) rfl
    rw [hz] at this; exact this
  refine ⟨⟨_, he, rfl⟩, h _ he ⟨_, Heap.get?_push_of_some _ (Heap.get?_push_size _ rfl), rfl, rfl⟩ (by rw [Heap.size_push, hz]) fun b o x => Heap.get?_push_of_some _ (Heap.get?_push_of_some _ x)⟩
theorem draws_tuple (hh : A.handled = none) (it l : Addr) (items : Array Value) (hne : it ≠ l) : Draws prog w A.in1 it [it, l] items.size (fun i x => items[i]? = some x) (fun i h => h.IsTupleIter it l i ∧ h.IsTuple l items) where
  live := fun i h st => let ⟨⟨o, e, _⟩, _⟩ := st; ⟨o, e⟩
  frame := fun i h h' st k => ⟨st.1.at fun o e => k it (by simp) o e, let ⟨o, e, r⟩ := st.2; ⟨o, k l (by simp) o e, r⟩⟩
  item := fun i s Q E hi st h => by
    refine RZ.nextOf_tuple_item (x := items[i]) st.1 st.2 (by simp [hi]) fun h' it' sb => ?_
    exact h items[i] h' s.toks (by simp [hi]) ⟨it', let ⟨o, e, r⟩ := st.2; ⟨o, (sb.2 l (Ne.symm hne)).trans e, r⟩⟩ sb
  done := fun s Q E st h => RZ.nextOf_tuple_end hh st.1 st.2 (by simp) h
end
/-- the tuple at a, each item in a new pair -/
def IteT (K : PySem.W.Frag) (a : Addr) : It :=
  ⟨fun i H => ∃ (xs : List V) (x : V), SqT K H a xs ∧ xs[i]? = some x, fun i H v H' => ∃ T x, v = .ref T ∧ H T = none ∧ H' = upd H T (.tup [.int (i : Nat), x]) ∧ ∀ xs, SqT K H a xs → xs[i]? = some x, fun i H => ∃ xs : List V, SqT K H a xs ∧ xs.length = i⟩
theorem turn_enumT {P : Program} {w : World} {K : PySem.W.Frag} {elts : List Expr} {kk : Nat} {tpos : Pos} (a e it : Addr) :
    Turn P w K (.Tuple elts kk tpos) (IteT K a) [e, it] e (fun i h => (∃ old, IsEnum h e it ((i : Nat) : Int) old) ∧ h.IsTupleIter it a i ∧ e ≠ it ∧ e ≠ a ∧ it ≠ a) where
  mem := by simp
  obj := fun i h st b hb => by
    obtain ⟨⟨old, he⟩, ⟨o, ho, hc, hd⟩, _⟩ := st
    have e' : b = e ∨ b = it := by simpa using hb
    rcases e' with z | z
    · rw [z]; exact ⟨_, he, fun v q => nomatch q⟩
    · rw [z]; exact ⟨o, ho, fun v q => by rw [hd] at q; cases q⟩
  keep := fun i h h' st k => let ⟨⟨old, he⟩, hi, hne⟩ := st; ⟨⟨old, k e (by simp) _ he⟩, hi.at fun o q => k it (by simp) o q, hne⟩
  item := by
    intro X hP hw hK hc i pins s σ H E I hf st hg
    subst hP hw hK
    obtain ⟨⟨old, he⟩, hit, hne, hea, hia⟩ := st
    obtain ⟨xs, x, hq, hx⟩ := hg
    obtain ⟨its, rv, p, hz⟩ := I.tuple hq
    obtain ⟨u, hu, ru⟩ := rv.get hx
    have hel : e < s.heap.objs.size := Heap.lt_size he
    have hil : it < s.heap.objs.size := by obtain ⟨_, q, _⟩ := hit; exact Heap.lt_size q
    have hlt : i < its.toArray.size := by
      have := (List.getElem?_eq_some_iff.mp hu).1
      simpa using this
    refine wpAny_pyNext_enum_itemD (draws_tuple (I.ok.hd hc) it a its.toArray hia) he ⟨hit, p⟩ hlt hne (by simp [hne, hea]) fun y h' tk hP ho hs' hT hsz hk => ?_
    have ey : y = u := by
      have q : its.toArray[i]? = some u := by simpa using hu
      rw [q] at hP; exact (Option.some.inj hP).symm
    subst ey
    refine ⟨_, rfl, wpAny_letOwnedTupleGo_enum (s := { s with heap := h', toks := tk + 1 }) ho fun h'' he' sb => ?_⟩
    have hT2 : h''.get? s.heap.objs.size = some { cls := .type "tuple", data := .seq #[.int i tk, y] } := (sb.2 _ (Nat.ne_of_gt hel)).trans hT
    have new : ObjOk X.prog X.w (upd H s.heap.objs.size (.tup [.int (i : Nat), x])) h'' s.heap.objs.size (.tup [.int (i : Nat), x]) :=
      ⟨by show 2 ≤ sizeLine; decide, [.int i tk, y], .cons ⟨_, rfl⟩ (.cons ru .nil), ⟨_, hT2, rfl, _, rfl⟩⟩
    have I1 : Inv X pins σ (upd H s.heap.objs.size (.tup [.int (i : Nat), x])) { s with heap := h'', toks := tk + 1 } :=
      I.turnedNew (ch := [e, it]) (fun b ob hb q => (sb.2 b (fun z => hb (by simp [z]))).trans (hk b ob (fun z => hb (by simp [z])) (fun z => hb (by simp [z])) q)) hf (Nat.le_refl _) new
    refine ⟨.ref s.heap.objs.size, _, I1, rfl, ⟨_, x, rfl, I.hok.fresh (Nat.le_refl _), rfl, fun ys hy => by rw [I.tuple_inj hy hq]; exact hx⟩, ⟨⟨y, ?_⟩, hs'.1.at fun o q => (sb.2 it (Ne.symm hne)).trans q, hne, hea, hia⟩, fun b hb => ?_⟩
    · have e1 : ((i + 1 : Nat) : Int) = (i : Int) + 1 := by omega
      rw [e1]; exact he'
    · have hb' : b < s.heap.objs.size := by
        have e' : b = e ∨ b = it := by simpa using hb
        rcases e' with z | z
        · rw [z]; exact hel
        · rw [z]; exact hil
      rw [upd_ne (Nat.ne_of_lt hb')]
      exact (hf b hb).1
  done := by
    intro X hP hw hK hc i pins s σ H E I hf st hg
    subst hP hw hK
    obtain ⟨⟨old, he⟩, hit, hne, hea, hia⟩ := st
    obtain ⟨xs, hq, hx⟩ := hg
    obtain ⟨its, rv, p, hz⟩ := I.tuple hq
    obtain ⟨f0, f1, f2, f3, f4, f5⟩ := hf it (by simp)
    have hl := rv.length
    have hi : its.toArray.size = i := by simp; omega
    subst hi
    exact wpAny_pyNext_enum_endD (draws_tuple (I.ok.hd hc) it a its.toArray hia) he ⟨hit, p⟩ fun h' eb => ⟨rfl, I.turned (t' := s.toks) (fun b o hb q => eb b o hb q) f0 f1 f3 f4 f5⟩
  self := fun A i s Q E st h => let ⟨⟨_, he⟩, _⟩ := st; wpAny_pyIter_enum he h
section
variable {X : Cx}
def iEnumA (K : PySem.W.Frag) (ta : TA) : TI := fun σ H R => ta σ H fun vs H1 => ∃ a xs, vs = [.ref a] ∧ ((SqL K H1 a xs ∧ R (Ite K a) H1) ∨ (SqT K H1 a xs ∧ R (IteT K a) H1))
theorem pi_enumA {e : Expr} {ta : TA} {p pos tpos : Pos} {elts : List Expr} {kk : Nat} (hg : Gl X "enumerate") (hm : X.mg "enumerate" = none) (ha : PA X [e] ta) (hs : starEach [e] X.env = [(false, eval e X.env)] := by rfl) :
    PI X (.Tuple elts kk tpos) (.Call (.Name "enumerate" p) [e] [] pos) (iEnumA X.K ta) := by
  refine ⟨fun pins s σ H R I h => ?_⟩
  refine Call_ (ld_blt I hg hm boot_enumerate (PyProof.Rows.callWith_type1 (thn (ha.run pos pins s σ H _ I h) fun us s1 ⟨vs, H1, I1, r1, q1⟩ => ?_) hs rfl))
  obtain ⟨a, xs, ex, q⟩ := q1
  subst ex
  cases r1 with
  | cons r rr =>
    cases rr
    cases r
    have fr : ∀ b ∈ [s1.heap.objs.size + 1, s1.heap.objs.size], FpOk X pins H1 b := fun b hb => by
      have e' : b = s1.heap.objs.size + 1 ∨ b = s1.heap.objs.size := by simpa using hb
      have hle : s1.heap.objs.size ≤ b := by
        rcases e' with z | z
        · rw [z]; exact Nat.le_add_right _ _
        · rw [z]; exact Nat.le_refl _
      exact I1.fpOk hle (I1.hok.fresh hle)
    rcases q with ⟨hq, q⟩ | ⟨hq, q⟩
    · obtain ⟨its, rv, p', hz⟩ := I1.list hq
      refine call_enumerate_list p'.isList fun h' he hit hsz hk => wpAny_pyIter_enum he ?_
      have I2 : Inv X pins σ H1 { s1 with heap := h' } := I1.kept (t' := s1.toks) hk
      exact ⟨s1.heap.objs.size + 1, [s1.heap.objs.size + 1, s1.heap.objs.size], _, _, H1, rfl, I2, turn_enum a (s1.heap.objs.size + 1) s1.heap.objs.size, ⟨⟨.none, he⟩, hit, Nat.succ_ne_self _⟩, fr, q⟩
    · obtain ⟨its, rv, p', hz⟩ := I1.tuple hq
      have hal : a < s1.heap.objs.size := p'.lt
      refine call_enumerate_tuple (show s1.heap.IsTuple a its.toArray from p') fun h' he hit hsz hk => wpAny_pyIter_enum he ?_
      have I2 : Inv X pins σ H1 { s1 with heap := h' } := I1.kept (t' := s1.toks) hk
      exact ⟨s1.heap.objs.size + 1, [s1.heap.objs.size + 1, s1.heap.objs.size], _, _, H1, rfl, I2, turn_enumT a (s1.heap.objs.size + 1) s1.heap.objs.size, ⟨⟨.none, he⟩, hit, Nat.succ_ne_self _, Nat.ne_of_gt (Nat.lt_succ_of_lt hal), Nat.ne_of_gt hal⟩, fr, q⟩
/-- a list, a tuple or a text walked -/
def iSeq (K : PySem.W.Frag) (tl : TE) : TI := fun σ H R => tl σ H fun x H1 => (∃ a, x = .ref a ∧ ((∃ xs, SqL K H1 a xs ∧ R (Itl K a) H1) ∨ (∃ xs, SqT K H1 a xs ∧ R (Itt K a) H1))) ∨ ∃ z, x = .str z ∧ R (Its z) H1
theorem pi_seq {tg l : Expr} {tl : TE} (hl : PE X l tl) : PI X tg l (iSeq X.K tl) := by
  refine ⟨fun pins s σ H R I h => ?_⟩
  refine thn (hl.run pins s σ H _ I h) fun v s1 ⟨x, H1, I1, r1, q1⟩ => ?_
  rcases q1 with ⟨a, e, ⟨xs, hq, q⟩ | ⟨xs, hq, q⟩⟩ | ⟨z, e, q⟩
  · subst e
    cases r1
    obtain ⟨its, rv, p, hz⟩ := I1.list hq
    refine wpAny_pyIter_list p.isList ?_
    refine ⟨s1.heap.objs.size, [s1.heap.objs.size], _, _, H1, rfl, I1.kept (t' := s1.toks) fun b o e => Heap.get?_push_of_some _ e, turn_list a _, ⟨_, Heap.get?_push_size _ rfl, rfl, rfl⟩, fun b hb => ?_, q⟩
    have e : b = s1.heap.objs.size := by simpa using hb
    subst e
    exact I1.fpOk (Nat.le_refl _) (I1.hok.fresh (Nat.le_refl _))
  · subst e
    cases r1
    obtain ⟨its, rv, p, hz⟩ := I1.tuple hq
    refine wpAny_pyIter_tuple (show s1.heap.IsTuple a its.toArray from p) ?_
    refine ⟨s1.heap.objs.size, [s1.heap.objs.size], _, _, H1, rfl, I1.kept (t' := s1.toks) fun b o e => Heap.get?_push_of_some _ e, turn_tuple a _, ⟨_, Heap.get?_push_size _ rfl, rfl, rfl⟩, fun b hb => ?_, q⟩
    have e : b = s1.heap.objs.size := by simpa using hb
    subst e
    exact I1.fpOk (Nat.le_refl _) (I1.hok.fresh (Nat.le_refl _))
  · subst e
    have r2 : RelV (.str z) v := r1
    obtain ⟨t, rfl⟩ := r2
    cases ha : z.cps.all (· < 128)
    · exact wpAny_pyIter_wide ha (pi_one (tk := s1.toks) I1 _ (turn_str _ z t "str_iterator" (.inr rfl)) ⟨_, Heap.get?_push_size _ rfl, rfl, rfl⟩ q)
    · exact wpAny_pyIter_ascii ha (pi_one (tk := s1.toks) I1 _ (turn_str _ z t "str_ascii_iterator" (.inl rfl)) ⟨_, Heap.get?_push_size _ rfl, rfl, rfl⟩ q)
end
end PV
set_option maxRecDepth 100000
set_option maxHeartbeats 4000000
/-! The operations by deep values. -/
namespace PV
open PySem PySem.Spec PyProof.Rows L2
theorem line_eq : (sizeLine : Nat) = LINE := sizeLine_eq
section
variable {K : PySem.W.Frag} {S S' : Addr → Prop} {φ φ' : List Addr} {H H' : Hp} {v : V} {d : D} {vs : List V} {ds : List D}
mutual
theorem Rep.dp : ∀ {v : V} {d : D}, Rep K S φ H v d → pure? d = true → Dp K H v (toPy d)
  | _, _, .non, _ => .non
  | _, _, .bl b, _ => .bl b
  | _, _, .int i, _ => .int i
  | _, _, .str z, _ => .str z
  | _, _, .tup h r, p => .tup h.sq (RepL.dp r p)
  | _, _, .lst _ h r, p => .lst (.inl (.inl h)) (RepL.dp r p)
  | _, _, .rol _ _, p => by cases p
  | _, _, .loc _, p => by cases p
theorem RepL.dp : ∀ {vs : List V} {ds : List D}, RepL K S φ H vs ds → pures? ds = true → DpAll K H vs (toPys ds)
  | _, _, .nil, _ => .nil
  | _, _, .cons h1 h2, p => by
    have p' := Bool.and_eq_true_iff.mp (show (pure? _ && pures? _) = true from p)
    exact .cons (Rep.dp h1 p'.1) (RepL.dp h2 p'.2)
end
theorem RepD.dp (h : RepD K S φ H v d) (p : pure? d = true) : Dp K H v (toPy d) := by
  rcases h with h | ⟨a, vs, ds, e1, e2, h, r⟩
  · exact h.dp p
  · subst e1 e2
    exact .lst (.inl (.inl h)) (r.dp p)

/-- a reading of a two-place operation answers as f does -/
def OpS (K : PySem.W.Frag) (r : R2) (f : D → D → Option D) : Prop :=
  ∀ (S : Addr → Prop) (φ : List Addr) (H : Hp) (st : Sto) (x y : V) (dx dy d : D) (Q : VK), SI K S φ H st → RepD K S φ H x dx → RepD K S φ H y dy → f dx dy = some d →
    (∀ v H' S', Stp S φ H S' φ H' → SI K S' φ H' st → Rep K S' φ H' v d → Q v H') → r x y H Q
/-- what the rules ask of the surroundings -/
structure Rm (X : Cx) : Prop where
  calm : X.calm = true
  un : X.A.units + 150 < cLine
def rAdd (K : PySem.W.Frag) : R2 := fun x y H Q => rI0 (fun i j => .int (i + j)) x y H Q ∨ (∃ i j, x = .str i ∧ y = .str j ∧ i.length + j.length ≤ sizeLine ∧ Q (.str (i ++ j)) H) ∨ rCatA K x y H Q ∨ rCat x y H Q
theorem or_add {X : Cx} : OpR X (binaryOp .Add) (rAdd X.K) := op_add.or (op_add_str.or (op_catA.or op_cat))
theorem os_add : OpS K (rAdd K) addD := by
  intro S φ H st x y dx dy d Q I rx ry e q
  cases dx with
  | int i => cases dy with
    | int j => cases e; cases rx.int; cases ry.int; exact .inl ⟨i, j, rfl, rfl, q _ _ _ .refl I (.int _)⟩
    | _ => cases e
  | str i => cases dy with
    | str j =>
      have e' : (if i.length + j.length ≤ LINE then some (D.str (i ++ j)) else none) = some d := e
      split at e'
      · cases e'; cases rx.str; cases ry.str
        rename_i h
        exact .inr (.inl ⟨i, j, rfl, rfl, by rw [line_eq]; exact h, q _ _ _ .refl I (.str _)⟩)
      · cases e'
    | _ => cases e
  | tup xs => cases dy with
    | tup ys =>
      have e' : (if xs.length + ys.length ≤ LINE then some (D.tup (xs ++ ys)) else none) = some d := e
      split at e'
      · cases e'
        rename_i h
        obtain ⟨a, us, rfl, ha, ra, pa⟩ := rx.tup
        obtain ⟨b, ws, rfl, hb, rb, pb⟩ := ry.tup
        refine .inr (.inr (.inl ⟨a, b, us, ws, rfl, rfl, ha, hb, by rw [line_eq, ra.length, rb.length]; exact h, fun z => ?_, fun _ z => ?_, fun _ _ p hp => ?_⟩))
        · subst z; cases ra; exact q _ _ _ .refl I pb
        · subst z; cases rb; rw [List.append_nil] at q; exact q _ _ _ .refl I pa
        · exact q _ _ _ (Stp.alloc hp) (I.alloc hp) (rep_tup I hp (ra.append rb))
      · cases e'
    | _ => cases e
  | lst xs => cases dy with
    | lst ys =>
      have e' : (if xs.length + ys.length ≤ LINE then some (D.lst (xs ++ ys)) else none) = some d := e
      split at e'
      · cases e'
        rename_i h
        obtain ⟨a, us, rfl, ha, ra⟩ := rx.lst
        obtain ⟨b, ws, rfl, hb, rb⟩ := ry.lst
        exact .inr (.inr (.inr ⟨a, b, us, ws, rfl, rfl, ha, hb, by rw [line_eq, ra.length, rb.length]; exact h, fun p hp => q _ _ _ (Stp.alloc hp) (I.alloc hp) (rep_lst I hp (ra.append rb))⟩))
      · cases e'
    | _ => cases e
  | _ => cases e
theorem os_int {g : Int → Int → Int} {C : Int → Int → Prop} {f : D → D → Option D} (h : ∀ dx dy d, f dx dy = some d → ∃ i j, dx = .int i ∧ dy = .int j ∧ C i j ∧ d = .int (g i j)) : OpS K (rI C fun i j => .int (g i j)) f := by
  intro S φ H st x y dx dy d Q I rx ry e q
  obtain ⟨i, j, rfl, rfl, c, rfl⟩ := h dx dy d e
  cases rx.int; cases ry.int
  exact ⟨i, j, rfl, rfl, c, q _ _ _ .refl I (.int _)⟩
theorem or_sub {X : Cx} : OpR X (binaryOp .Sub) (rI (fun _ _ => True) fun i j => .int (i - j)) := fun pins s σ H x y v u Q I rx ry ⟨i, j, a, b, _, q⟩ => op_sub pins s σ H x y v u Q I rx ry ⟨i, j, a, b, q⟩
theorem os_sub : OpS K (rI (fun _ _ => True) fun i j => .int (i - j)) subD := os_int fun dx dy d e => by
  unfold subD at e
  split at e
  · cases e; exact ⟨_, _, rfl, rfl, trivial, rfl⟩
  · cases e
theorem os_mul : OpS K (rI CMul fun i j => .int (i * j)) mulD := os_int fun dx dy d e => by
  unfold mulD at e
  split at e
  · split at e
    · cases e; rename_i h; refine ⟨_, _, rfl, rfl, ?_, rfl⟩
      unfold CMul; omega
    · cases e
  · cases e
theorem os_mod : OpS K (rI (fun _ j => 0 < j) fun i j => .int (i % j)) modD := os_int fun dx dy d e => by
  unfold modD at e
  split at e
  · split at e
    · cases e; rename_i h; exact ⟨_, _, rfl, rfl, h, rfl⟩
    · cases e
  · cases e
theorem os_div : OpS K (rI CDiv fun i j => .int (i / j)) divD := os_int fun dx dy d e => by
  unfold divD at e
  split at e
  · split at e
    · cases e; rename_i h; exact ⟨_, _, rfl, rfl, h, rfl⟩
    · cases e
  · cases e
/-- each operator has a rule -/
theorem bin_rule (op : BOp) (K : PySem.W.Frag) : ∃ r : R2, (∀ X : Cx, X.K = K → Rm X → OpR X (binaryOp op.py) r) ∧ OpS K r (binD op) := by
  cases op with
  | add => exact ⟨rAdd K, fun X e _ => by subst e; exact or_add, os_add⟩
  | sub => exact ⟨_, fun X e _ => or_sub, os_sub⟩
  | mul => exact ⟨_, fun X e _ => op_mul, os_mul⟩
  | mod => exact ⟨_, fun X e _ => op_mod, os_mod⟩
  | div => exact ⟨_, fun X e _ => op_fdiv, os_div⟩

/-! ### comparisons: a bool -/
def CmS (K : PySem.W.Frag) (r : R2) (f : D → D → Option Bool) : Prop :=
  ∀ (S : Addr → Prop) (φ : List Addr) (H : Hp) (x y : V) (dx dy : D) (b : Bool) (Q : VK), RepD K S φ H x dx → RepD K S φ H y dy → f dx dy = some b → Q (.bl b) H → r x y H Q
theorem cs_int {g : Int → Int → Bool} {f : D → D → Option Bool} (h : ∀ dx dy b, f dx dy = some b → ∃ i j, dx = .int i ∧ dy = .int j ∧ b = g i j) : CmS K (rI0 fun i j => .bl (g i j)) f := by
  intro S φ H x y dx dy b Q rx ry e q
  obtain ⟨i, j, rfl, rfl, rfl⟩ := h dx dy b e
  cases rx.int; cases ry.int
  exact ⟨i, j, rfl, rfl, q⟩
theorem cs_eq : CmS K (rEqD K) eqD := by
  intro S φ H x y dx dy b Q rx ry e q
  unfold eqD at e
  split at e
  · rename_i h
    cases e
    obtain ⟨h1, h2⟩ := h
    unfold shp at h1 h2
    obtain ⟨p1, s1⟩ := Bool.and_eq_true_iff.mp h1
    obtain ⟨p2, s2⟩ := Bool.and_eq_true_iff.mp h2
    exact ⟨_, _, rx.dp p1, ry.dp p2, s1, s2, q⟩
  · cases e
theorem cs_ne : CmS K (rNeD K) (cmpD .ne) := by
  intro S φ H x y dx dy b Q rx ry e q
  have e' : (eqD dx dy).map (!·) = some b := e
  unfold eqD at e'
  split at e'
  · rename_i h
    cases e'
    obtain ⟨h1, h2⟩ := h
    unfold shp at h1 h2
    obtain ⟨p1, s1⟩ := Bool.and_eq_true_iff.mp h1
    obtain ⟨p2, s2⟩ := Bool.and_eq_true_iff.mp h2
    exact ⟨_, _, rx.dp p1, ry.dp p2, s1, s2, q⟩
  · cases e'
theorem isNon_of (h : RepD K S φ H v d) : decide (v = .non) = isNonD d := by
  rcases h with h | ⟨a, vs, ds, e1, e2, h, r⟩
  · cases h <;> simp [isNonD]
  · subst e1 e2; simp [isNonD]
def rIs : R2 := fun x y H Q => (y = .non ∧ Q (.bl (decide (x = .non))) H) ∨ rIsB x y H Q
def rIsn : R2 := fun x y H Q => (y = .non ∧ Q (.bl (!decide (x = .non))) H) ∨ rNotB x y H Q
theorem isD_cases {dx dy : D} {b : Bool} (h : isD dx dy = some b) : (dy = .non ∧ b = isNonD dx) ∨ ∃ p q, dx = .bl p ∧ dy = .bl q ∧ b = decide (p = q) := by
  unfold isD at h
  split at h
  · cases h; exact .inl ⟨rfl, rfl⟩
  · cases h; exact .inr ⟨_, _, rfl, rfl, rfl⟩
  · cases h
theorem cs_is : CmS K rIs (cmpD .is) := by
  intro S φ H x y dx dy b Q rx ry e q
  rcases isD_cases (show isD dx dy = some b from e) with ⟨rfl, rfl⟩ | ⟨p, r, rfl, rfl, rfl⟩
  · cases ry.non; exact .inl ⟨rfl, by rw [isNon_of rx]; exact q⟩
  · cases rx.bl; cases ry.bl; exact .inr ⟨p, r, rfl, rfl, q⟩
theorem cs_isn : CmS K rIsn (cmpD .isn) := by
  intro S φ H x y dx dy b Q rx ry e q
  have e' : (isD dx dy).map (!·) = some b := e
  cases h : isD dx dy with
  | none => rw [h] at e'; cases e'
  | some c =>
    rw [h] at e'
    cases e'
    rcases isD_cases h with ⟨rfl, rfl⟩ | ⟨p, r, rfl, rfl, rfl⟩
    · cases ry.non; exact .inl ⟨rfl, by rw [isNon_of rx]; exact q⟩
    · cases rx.bl; cases ry.bl; exact .inr ⟨p, r, rfl, rfl, q⟩
theorem cs_icmp {g : Int → Int → Bool} : CmS K (rI0 fun i j => .bl (g i j)) (icmp g) := cs_int fun dx dy b e => by
  unfold icmp at e
  split at e
  · cases e; exact ⟨_, _, rfl, rfl, rfl⟩
  · cases e
theorem cmp_rule (op : COp) (K : PySem.W.Frag) : ∃ r : R2, (∀ X : Cx, X.K = K → Rm X → OpR X (compareOp op.py) r) ∧ CmS K r (cmpD op) := by
  cases op with
  | eq => exact ⟨rEqD K, fun X e m => by subst e; exact op_eqD (by have := m.un; omega), cs_eq⟩
  | ne => exact ⟨rNeD K, fun X e m => by subst e; exact op_neD (by have := m.un; omega), cs_ne⟩
  | lt => exact ⟨_, fun X e m => op_lt, cs_icmp⟩
  | le => exact ⟨_, fun X e m => op_le, cs_icmp⟩
  | gt => exact ⟨_, fun X e m => op_gt, cs_icmp⟩
  | ge => exact ⟨_, fun X e m => op_ge, cs_icmp⟩
  | is => exact ⟨rIs, fun X e m => op_isN.or op_isBl, cs_is⟩
  | isn => exact ⟨rIsn, fun X e m => op_notN.or op_notBl, cs_isn⟩

/-! ### truth -/
theorem truV {k : Bool} (h : RepD K S φ H v d) (e : truthD d = some k) : TruV K v H k := by
  cases d with
  | non => cases h.non; cases e; exact rfl
  | bl b => cases h.bl; cases e; exact rfl
  | int i => cases h.int; cases e; exact rfl
  | str x =>
    cases h.str
    have e' : (if x.length ≤ LINE then some ((x.length : Int) != 0) else none) = some k := e
    split at e'
    · cases e'; rename_i z; exact ⟨by rw [line_eq]; exact z, rfl⟩
    · cases e'
  | tup xs =>
    obtain ⟨a, vs, rfl, h1, r, _⟩ := h.tup
    cases e
    refine .inr (.inl ⟨vs, h1, ?_⟩)
    cases r <;> rfl
  | lst xs =>
    obtain ⟨a, vs, rfl, h1, r⟩ := h.lst
    cases e
    refine .inl ⟨vs, .inl (.inl h1), ?_⟩
    cases r <;> rfl
  | rol xs => cases e
  | loc n => cases e

/-! ### subscripts -/
theorem RepL.atI {i : Int} (r : RepL K S φ H vs ds) (e : L2.atI ds i = some d) : ∃ v, L2.atI vs i = some v ∧ Rep K S φ H v d := by
  unfold L2.atI at e ⊢
  rw [r.length]
  cases q : ixN ds.length i with
  | none => rw [q] at e; cases e
  | some j =>
    rw [q] at e
    exact r.get (show ds[j]? = some d from e)
def IxS (K : PySem.W.Frag) (r : R2) : Prop :=
  ∀ (S : Addr → Prop) (φ : List Addr) (H : Hp) (x y : V) (dx dy d : D) (Q : VK), RepD K S φ H x dx → RepD K S φ H y dy → idxD dx dy = some d → (∀ v, Rep K S φ H v d → Q v H) → r x y H Q
theorem is_idx : IxS K (rIx K) := by
  intro S φ H x y dx dy d Q rx ry e q
  unfold idxD at e
  split at e
  · obtain ⟨a, vs, rfl, h1, r⟩ := rx.lst
    cases ry.int
    obtain ⟨v, hv, rv⟩ := r.atI e
    exact .inl ⟨a, vs, _, v, rfl, rfl, .inl (.inl h1), hv, q v rv⟩
  · obtain ⟨a, vs, rfl, h1, r, _⟩ := rx.tup
    cases ry.int
    obtain ⟨v, hv, rv⟩ := r.atI e
    exact .inr (.inl ⟨a, vs, _, v, rfl, rfl, h1, hv, q v rv⟩)
  · cases rx.str
    cases ry.int
    split at e
    · rename_i z i hz
      cases hc : L2.atI z.cps.toList i with
      | none => rw [hc] at e; cases e
      | some c => rw [hc] at e; cases e; exact .inr (.inr ⟨z, i, c, rfl, rfl, by rw [line_eq]; exact hz, hc, q _ (.str _)⟩)
    · cases e
  · cases e
def rSl (K : PySem.W.Frag) : V → Option Int → Option Int → Hp → VK → Prop := fun x lo hi H Q => rSlL K x lo hi H Q ∨ rSlA K x lo hi H Q
theorem RepL.cut {lo hi : Option Int} (r : RepL K S φ H vs ds) : RepL K S φ H (cutV vs lo hi) (PV.cut ds lo hi) := by
  unfold cutV PV.cut
  rw [r.length]
  exact (r.drop _).take _
theorem cut_whole {α : Type} {xs : List α} {lo hi : Option Int} (h : HT.sIx xs.length 0 lo = 0 ∧ HT.sIx xs.length xs.length hi = xs.length) : PV.cut xs lo hi = xs := by
  unfold PV.cut
  rw [h.1, h.2]
  simp
def SlS (K : PySem.W.Frag) (r : V → Option Int → Option Int → Hp → VK → Prop) : Prop :=
  ∀ (S : Addr → Prop) (φ : List Addr) (H : Hp) (st : Sto) (x : V) (dx d : D) (lo hi : Option Int) (Q : VK), SI K S φ H st → RepD K S φ H x dx → slcD dx lo hi = some d →
    (∀ v H' S', Stp S φ H S' φ H' → SI K S' φ H' st → Rep K S' φ H' v d → Q v H') → r x lo hi H Q
theorem ss_slc : SlS K (rSl K) := by
  intro S φ H st x dx d lo hi Q I rx e q
  unfold slcD at e
  split at e
  · cases e
    obtain ⟨a, vs, rfl, h1, r⟩ := rx.lst
    exact .inl ⟨a, vs, rfl, .inl (.inl h1), fun p hp => q _ _ _ (Stp.alloc hp) (I.alloc hp) (rep_lst I hp r.cut)⟩
  · cases e
    obtain ⟨a, vs, rfl, h1, r⟩ := rx.rol
    exact .inl ⟨a, vs, rfl, h1, fun p hp => q _ _ _ (Stp.alloc hp) (I.alloc hp) (rep_lst I hp r.cut)⟩
  · cases e
    obtain ⟨a, vs, rfl, h1, r, rr⟩ := rx.tup
    refine .inr ⟨a, vs, rfl, h1, fun z => ?_, fun _ p hp => q _ _ _ (Stp.alloc hp) (I.alloc hp) (rep_tup I hp r.cut)⟩
    rw [r.length] at z
    rw [cut_whole z] at q
    exact q _ _ _ .refl I rr
  · cases e

/-! ### built-ins -/
theorem ints_of : ∀ {vs : List V} {ds : List D} {l : List Int}, RepL K S φ H vs ds → ints? ds = some l → vs = l.map V.int
  | _, _, _, .nil, e => by cases e; rfl
  | _, _, _, .cons (d := d) h1 h2, e => by
    cases d with
    | int i =>
      cases h1
      have e' : (ints? _).map (i :: ·) = some _ := e
      cases q : ints? _ with
      | none => rw [q] at e'; cases e'
      | some l => rw [q] at e'; cases e'; rw [ints_of h2 q]; rfl
    | _ => cases e
theorem bools_of : ∀ {vs : List V} {ds : List D} {l : List Bool}, RepL K S φ H vs ds → bools? ds = some l → vs = l.map V.bl
  | _, _, _, .nil, e => by cases e; rfl
  | _, _, _, .cons (d := d) h1 h2, e => by
    cases d with
    | bl i =>
      cases h1
      have e' : (bools? _).map (i :: ·) = some _ := e
      cases q : bools? _ with
      | none => rw [q] at e'; cases e'
      | some l => rw [q] at e'; cases e'; rw [bools_of h2 q]; rfl
    | _ => cases e
theorem maxI_spec : ∀ (l : List Int), l ≠ [] → maxI l ∈ l ∧ ∀ y ∈ l, y ≤ maxI l
  | [], h => absurd rfl h
  | [x], _ => by simp [maxI]
  | x :: y :: r, _ => by
    obtain ⟨h1, h2⟩ := maxI_spec (y :: r) (by simp)
    have e : maxI (x :: y :: r) = max x (maxI (y :: r)) := rfl
    rw [e]
    refine ⟨?_, fun z hz => ?_⟩
    · by_cases hx : x ≤ maxI (y :: r)
      · rw [Int.max_eq_right hx]; exact List.mem_cons_of_mem _ h1
      · rw [Int.max_eq_left (by omega)]; exact List.mem_cons_self
    · rcases List.mem_cons.mp hz with q | q
      · subst q; exact Int.le_max_left _ _
      · exact Int.le_trans (h2 z q) (Int.le_max_right _ _)
theorem minI_spec : ∀ (l : List Int), l ≠ [] → minI l ∈ l ∧ ∀ y ∈ l, minI l ≤ y
  | [], h => absurd rfl h
  | [x], _ => by simp [minI]
  | x :: y :: r, _ => by
    obtain ⟨h1, h2⟩ := minI_spec (y :: r) (by simp)
    have e : minI (x :: y :: r) = min x (minI (y :: r)) := rfl
    rw [e]
    refine ⟨?_, fun z hz => ?_⟩
    · by_cases hx : x ≤ minI (y :: r)
      · rw [Int.min_eq_left hx]; exact List.mem_cons_self
      · rw [Int.min_eq_right (by omega)]; exact List.mem_cons_of_mem _ h1
    · rcases List.mem_cons.mp hz with q | q
      · subst q; exact Int.min_le_left _ _
      · exact Int.le_trans (Int.min_le_right _ _) (h2 z q)
theorem CallR.or {X : Cx} {f : Value} {r r' : List V → Hp → VK → Prop} (h : CallR X f r) (h' : CallR X f r') : CallR X f fun xs H Q => r xs H Q ∨ r' xs H Q := by
  intro pins s σ H xs us Q I rx q
  rcases q with q | q
  · exact h pins s σ H xs us Q I rx q
  · exact h' pins s σ H xs us Q I rx q
def ClS (K : PySem.W.Frag) (r : List V → Hp → VK → Prop) (f : List D → Option D) : Prop :=
  ∀ (S : Addr → Prop) (φ : List Addr) (H : Hp) (st : Sto) (xs : List V) (ds : List D) (d : D) (Q : VK), SI K S φ H st → Paired (RepD K S φ H) xs ds → f ds = some d →
    (∀ v H' S', Stp S φ H S' φ H' → SI K S' φ H' st → Rep K S' φ H' v d → Q v H') → r xs H Q
theorem pd1 {R : V → D → Prop} {xs : List V} {d : D} (h : Paired R xs [d]) : ∃ x, xs = [x] ∧ R x d := by
  cases h with
  | cons a b => cases b; exact ⟨_, rfl, a⟩
theorem pd2 {R : V → D → Prop} {xs : List V} {d d' : D} (h : Paired R xs [d, d']) : ∃ x y, xs = [x, y] ∧ R x d ∧ R y d' := by
  cases h with
  | cons a b =>
    cases b with
    | cons c e => cases e; exact ⟨_, _, rfl, a, c⟩
theorem cl_len : ClS K (rLen K) fLen := by
  intro S φ H st xs ds d Q I r e q
  unfold fLen at e
  split at e
  · rename_i d0
    obtain ⟨x, rfl, rx⟩ := pd1 r
    unfold lenD at e
    split at e
    · cases e; obtain ⟨a, vs, rfl, h1, rr⟩ := rx.lst
      exact ⟨_, vs.length, rfl, .inl ⟨vs, .inl (.inl h1), rfl⟩, by rw [rr.length]; exact q _ _ _ .refl I (.int _)⟩
    · cases e; obtain ⟨a, vs, rfl, h1, rr⟩ := rx.rol
      exact ⟨_, vs.length, rfl, .inl ⟨vs, h1, rfl⟩, by rw [rr.length]; exact q _ _ _ .refl I (.int _)⟩
    · cases e; obtain ⟨a, vs, rfl, h1, rr, _⟩ := rx.tup
      exact ⟨_, vs.length, rfl, .inr ⟨vs, h1, rfl⟩, by rw [rr.length]; exact q _ _ _ .refl I (.int _)⟩
    · split at e
      · cases e; cases rx.str; rename_i z hz; exact ⟨_, _, rfl, ⟨by rw [line_eq]; exact hz, rfl⟩, q _ _ _ .refl I (.int _)⟩
      · cases e
    · cases e
  · cases e
def rInt : List V → Hp → VK → Prop := fun xs H Q => (∃ i, xs = [.int i] ∧ Q (.int i) H) ∨ ∃ k, xs = [.bl k] ∧ Q (.int (if k then 1 else 0)) H
theorem cl_int : ClS K rInt fInt := by
  intro S φ H st xs ds d Q I r e q
  unfold fInt at e
  split at e
  · cases e; obtain ⟨x, rfl, rx⟩ := pd1 r; cases rx.int; exact .inl ⟨_, rfl, q _ _ _ .refl I (.int _)⟩
  · cases e
theorem cl_abs : ClS K (fun xs H Q => ∃ i, xs = [.int i] ∧ Q (.int (if i < 0 then -i else i)) H) fAbs := by
  intro S φ H st xs ds d Q I r e q
  unfold fAbs at e
  split at e
  · cases e; obtain ⟨x, rfl, rx⟩ := pd1 r; cases rx.int; exact ⟨_, rfl, q _ _ _ .refl I (.int _)⟩
  · cases e
def rMaxA (K : PySem.W.Frag) : List V → Hp → VK → Prop := fun xs H Q => (∃ i j, xs = [.int i, .int j] ∧ Q (.int (if j > i then j else i)) H) ∨ rMax K xs H Q
def rMinA (K : PySem.W.Frag) : List V → Hp → VK → Prop := fun xs H Q => (∃ i j, xs = [.int i, .int j] ∧ Q (.int (if j < i then j else i)) H) ∨ rMin K xs H Q
theorem cl_max : ClS K (rMaxA K) fMax := by
  intro S φ H st xs ds d Q I r e q
  unfold fMax at e
  split at e
  · cases e; obtain ⟨x, y, rfl, rx, ry⟩ := pd2 r; cases rx.int; cases ry.int; exact .inl ⟨_, _, rfl, q _ _ _ .refl I (.int _)⟩
  · split at e
    · rename_i x l hl
      cases e
      obtain ⟨v, rfl, rx⟩ := pd1 r
      obtain ⟨a, vs, rfl, h1, rr⟩ := rx.lst
      cases ints_of rr hl
      obtain ⟨h2, h3⟩ := maxI_spec (x :: l) (by simp)
      refine .inr ⟨a, x :: l, rfl, .inl (.inl h1), by simp, fun m hm hle => ?_⟩
      have : m = maxI (x :: l) := Int.le_antisymm (h3 m hm) (hle _ h2)
      rw [this]; exact q _ _ _ .refl I (.int _)
    · cases e
  · cases e
theorem cl_min : ClS K (rMinA K) fMin := by
  intro S φ H st xs ds d Q I r e q
  unfold fMin at e
  split at e
  · cases e; obtain ⟨x, y, rfl, rx, ry⟩ := pd2 r; cases rx.int; cases ry.int; exact .inl ⟨_, _, rfl, q _ _ _ .refl I (.int _)⟩
  · split at e
    · rename_i x l hl
      cases e
      obtain ⟨v, rfl, rx⟩ := pd1 r
      obtain ⟨a, vs, rfl, h1, rr⟩ := rx.lst
      cases ints_of rr hl
      obtain ⟨h2, h3⟩ := minI_spec (x :: l) (by simp)
      refine .inr ⟨a, x :: l, rfl, .inl (.inl h1), by simp, fun m hm hle => ?_⟩
      have : m = minI (x :: l) := Int.le_antisymm (hle _ h2) (h3 m hm)
      rw [this]; exact q _ _ _ .refl I (.int _)
    · cases e
  · cases e
theorem cl_sum : ClS K (rSum K) fSum := by
  intro S φ H st xs ds d Q I r e q
  unfold fSum at e
  split at e
  · rename_i ds
    cases hl : ints? ds with
    | none => rw [hl] at e; cases e
    | some l =>
      rw [hl] at e
      cases e
      obtain ⟨v, rfl, rx⟩ := pd1 r
      obtain ⟨a, vs, rfl, h1, rr⟩ := rx.lst
      cases ints_of rr hl
      exact ⟨a, l, rfl, .inl (.inl h1), q _ _ _ .refl I (.int _)⟩
  · cases e
theorem cl_any : ClS K (rAny K) fAny := by
  intro S φ H st xs ds d Q I r e q
  unfold fAny at e
  split at e
  · rename_i ds
    cases hl : bools? ds with
    | none => rw [hl] at e; cases e
    | some l =>
      rw [hl] at e
      cases e
      obtain ⟨v, rfl, rx⟩ := pd1 r
      obtain ⟨a, vs, rfl, h1, rr⟩ := rx.lst
      cases bools_of rr hl
      exact ⟨a, l, rfl, .inl (.inl h1), q _ _ _ .refl I (.bl _)⟩
  · cases e
theorem cl_all : ClS K (rAll K) fAll := by
  intro S φ H st xs ds d Q I r e q
  unfold fAll at e
  split at e
  · rename_i ds
    cases hl : bools? ds with
    | none => rw [hl] at e; cases e
    | some l =>
      rw [hl] at e
      cases e
      obtain ⟨v, rfl, rx⟩ := pd1 r
      obtain ⟨a, vs, rfl, h1, rr⟩ := rx.lst
      cases bools_of rr hl
      exact ⟨a, l, rfl, .inl (.inl h1), q _ _ _ .refl I (.bl _)⟩
  · cases e
def rTupO (K : PySem.W.Frag) : List V → Hp → VK → Prop := fun xs H Q => ∃ p ys, xs = [.ref p] ∧ ((SqL K H p ys ∧ ∀ l, H l = none → Q (.ref l) (upd H l (.tup ys))) ∨ (SqT K H p ys ∧ Q (.ref p) H))
theorem cl_tup : ClS K (rTupO K) fTup := by
  intro S φ H st xs ds d Q I r e q
  unfold fTup at e
  split at e
  · cases e
    obtain ⟨v, rfl, rx⟩ := pd1 r
    obtain ⟨a, vs, rfl, h1, rr⟩ := rx.lst
    exact ⟨a, vs, rfl, .inl ⟨.inl (.inl h1), fun p hp => q _ _ _ (Stp.alloc hp) (I.alloc hp) (rep_tup I hp rr)⟩⟩
  · cases e
    obtain ⟨v, rfl, rx⟩ := pd1 r
    obtain ⟨a, vs, rfl, h1, rr, p⟩ := rx.tup
    exact ⟨a, vs, rfl, .inr ⟨h1, q _ _ _ .refl I p⟩⟩
  · cases e
/-- what a built-in's name stands for -/
def Blt.val : Blt → Value
  | .int => .type "int"
  | .tup => .type "tuple"
  | b => .builtin b.name
theorem Blt.boot (b : Blt) : bootBuiltins (Str.ofString b.name) = some b.val := by
  cases b <;> decide +kernel
theorem blt_rule (b : Blt) (K : PySem.W.Frag) : ∃ r, (∀ X : Cx, X.K = K → Rm X → CallR X b.val r) ∧ ClS K r (bltD b) := by
  cases b with
  | len => exact ⟨rLen K, fun X e m => by subst e; exact call_len, cl_len⟩
  | int => exact ⟨rInt, fun X e m => call_int1, cl_int⟩
  | abs => exact ⟨_, fun X e m => call_abs, cl_abs⟩
  | max => exact ⟨rMaxA K, fun X e m => by subst e; exact CallR.or (call_max2 m.calm) (cr_max m.calm), cl_max⟩
  | min => exact ⟨rMinA K, fun X e m => by subst e; exact CallR.or (call_min2 m.calm) (cr_min m.calm), cl_min⟩
  | sum => exact ⟨rSum K, fun X e m => by subst e; exact cr_sum m.calm, cl_sum⟩
  | any => exact ⟨rAny K, fun X e m => by subst e; exact cr_any m.calm, cl_any⟩
  | all => exact ⟨rAll K, fun X e m => by subst e; exact cr_all m.calm, cl_all⟩
  | tup => exact ⟨rTupO K, fun X e m => by subst e; exact call_tuple_of, cl_tup⟩

/-! ### isinstance -/
def tyOfD : D → Option String
  | .non => some "NoneType"
  | .bl _ => some "bool"
  | .int _ => some "int"
  | .str _ => some "str"
  | .tup _ => some "tuple"
  | .lst _ => some "list"
  | _ => none
theorem tyX_of {n : String} (h : RepD K S φ H v d) (e : tyOfD d = some n) : TyX K H v (.type n) := by
  rcases h with h | ⟨a, vs, ds, rfl, rfl, h, r⟩
  · cases h with
    | non => cases e; exact .base .non
    | bl b => cases e; exact .base (.bl b)
    | int i => cases e; exact .base (.int i)
    | str x => cases e; exact .base (.str x)
    | tup h r =>
      cases e
      rcases h with ⟨_, h⟩ | ⟨o, its, n, hk, hc, _⟩
      · exact .base (.tup h)
      · exact .kTuple hk hc
    | lst _ h r => cases e; exact .base (.lst h)
    | rol _ _ => cases e
    | loc _ => cases e
  · cases e; exact .base (.lst h)
theorem kit_all : ∀ (n : String) (t : Ty) (b : Bool), (n, t, b) ∈ ([("NoneType", .int, false), ("NoneType", .bool, false), ("NoneType", .str, false), ("NoneType", .tup, false), ("NoneType", .lst, false),
    ("bool", .int, true), ("bool", .bool, true), ("bool", .str, false), ("bool", .tup, false), ("bool", .lst, false),
    ("int", .int, true), ("int", .bool, false), ("int", .str, false), ("int", .tup, false), ("int", .lst, false),
    ("str", .int, false), ("str", .bool, false), ("str", .str, true), ("str", .tup, false), ("str", .lst, false),
    ("tuple", .int, false), ("tuple", .bool, false), ("tuple", .str, false), ("tuple", .tup, true), ("tuple", .lst, false),
    ("list", .int, false), ("list", .bool, false), ("list", .str, false), ("list", .tup, false), ("list", .lst, true)] : List (String × Ty × Bool)) → kitB n t.name = some b := by
  intro n t b h
  have : ([("NoneType", .int, false), ("NoneType", .bool, false), ("NoneType", .str, false), ("NoneType", .tup, false), ("NoneType", .lst, false),
    ("bool", .int, true), ("bool", .bool, true), ("bool", .str, false), ("bool", .tup, false), ("bool", .lst, false),
    ("int", .int, true), ("int", .bool, false), ("int", .str, false), ("int", .tup, false), ("int", .lst, false),
    ("str", .int, false), ("str", .bool, false), ("str", .str, true), ("str", .tup, false), ("str", .lst, false),
    ("tuple", .int, false), ("tuple", .bool, false), ("tuple", .str, false), ("tuple", .tup, true), ("tuple", .lst, false),
    ("list", .int, false), ("list", .bool, false), ("list", .str, false), ("list", .tup, false), ("list", .lst, true)] : List (String × Ty × Bool)).all (fun p => decide (kitB p.1 p.2.1.name = some p.2.2)) = true := by decide +kernel
  have q := List.all_eq_true.mp this _ h
  exact of_decide_eq_true q
theorem isi_ok {t : Ty} {b : Bool} (h : RepD K S φ H v d) (e : isiD d t = some b) : ∃ n, TyX K H v (.type n) ∧ PySem.W.kitOne K (.type n) (.type t.name) = some b := by
  have go : ∀ n, tyOfD d = some n → kitB n t.name = some b → ∃ n, TyX K H v (.type n) ∧ PySem.W.kitOne K (.type n) (.type t.name) = some b := fun n e1 e2 => ⟨n, tyX_of h e1, kit_ty e2⟩
  cases d with
  | non => cases e; exact go _ rfl (kit_all _ _ _ (by cases t <;> simp))
  | bl x => cases e; exact go _ rfl (kit_all _ _ _ (by cases t <;> simp))
  | int x => cases e; exact go _ rfl (kit_all _ _ _ (by cases t <;> simp))
  | str x => cases e; exact go _ rfl (kit_all _ _ _ (by cases t <;> simp))
  | tup x => cases e; exact go _ rfl (kit_all _ _ _ (by cases t <;> simp))
  | lst x => cases e; exact go _ rfl (kit_all _ _ _ (by cases t <;> simp))
  | rol x => cases e
  | loc x => cases e
theorem Ty.boot (t : Ty) : bootBuiltins (Str.ofString t.name) = some (.type t.name) := by
  cases t <;> decide +kernel
end
end PV
set_option maxRecDepth 100000
/-! The row's trees against the code. -/
namespace PV
open PySem L2
/-- a def's names: slots; the program's: defs with their arity, constants, built-ins that stand as they are -/
structure MC where
  N : List Str
  fs : List (Str × Nat)
  gn : List Str
  fr : List Str
def visB (sc : Scope) (x : Str) : Bool := match sc.names.lookup x with
  | some .local => true
  | some .cell => true
  | some .free => true
  | _ => false
def locB (sc : Scope) (x : Str) : Bool := match sc.names.lookup x with
  | some .local => true
  | some .cell => true
  | _ => false
def glB (sc : Scope) (x : Str) : Bool := match sc.names.lookup x with
  | some .globalImplicit => true
  | _ => false
def okN (x : Str) : Bool := !(x == ("__debug__" : Str)) && !(x == ("__classdict__" : Str)) && !(x == ("__name__" : Str))
def Exs.len : Exs → Nat
  | .nil => 0
  | .c _ es => es.len + 1
mutual
/-- what may stand as a test -/
def tstB : Ex → Bool
  | .ite _ _ _ => false
  | .fz _ => false
  | .alloc _ => false
  | .tup _ => false
  | .not a => tstB a
  | .bop _ es => tstsB es
  | _ => true
def tstsB : Exs → Bool
  | .nil => true
  | .c e es => tstB e && tstsB es
end
mutual
def tgIn (vs : List Nat) : Tg → Bool
  | .nm i => vs.contains i
  | .tp ts => tgsIn vs ts
def tgsIn (vs : List Nat) : Tgs → Bool
  | .nil => true
  | .c t ts => tgIn vs t && tgsIn vs ts
end
def ownOf (N : List Str) (vs : List Nat) : List (Str × Nat) := vs.filterMap fun i => N[i]?.map fun x => (x, i)
section
variable (m : MC)
mutual
def mT (fb : Str → Bool) (sc : Scope) : Tg → Expr → Bool
  | .nm i, e => match e with
    | .Name x _ => decide (m.N[i]? = some x) && locB sc x && (fb x || decide (sc.names.lookup x = some .local))
    | _ => false
  | .tp ts, e => match e with
    | .Tuple xs _ _ => mTs fb sc ts xs
    | _ => false
def mTs (fb : Str → Bool) (sc : Scope) : Tgs → List Expr → Bool
  | .nil, xs => match xs with
    | [] => true
    | _ => false
  | .c t ts, xs => match xs with
    | x :: xs => mT fb sc t x && mTs fb sc ts xs
    | _ => false
end
def fbC (scope : Scope) : Str → Bool := fun x => scope.names.lookup x == some .cell
def bopOf : Bool → PySem.BoolOp
  | true => .And
  | false => .Or
def isTupE : Expr → Bool
  | .Tuple _ _ _ => true
  | _ => false
mutual
def mE : Ex → Scope → Expr → Bool
  | .var i, sc, e => match e with
    | .Name x _ => decide (m.N[i]? = some x) && visB sc x && okN x
    | _ => false
  | .int i, _, e => match e with
    | .Constant (.int j) _ _ => decide (i = j)
    | _ => false
  | .str x, _, e => match e with
    | .Constant (.str y) _ _ => decide (x = y)
    | _ => false
  | .bl b, _, e => match e with
    | .Constant (.bool c) _ _ => decide (b = c)
    | _ => false
  | .non, _, e => match e with
    | .Constant .none _ _ => true
    | _ => false
  | .gl k, sc, e => match e with
    | .Name x _ => decide (m.gn[k]? = some x) && glB sc x && okN x
    | _ => false
  | .tup es, sc, e => match e with
    | .Tuple xs _ _ => mEs es sc xs && decide (es.len ≤ 1000)
    | _ => false
  | .fz f, sc, e => mF f sc e
  | .alloc f, sc, e => mF f sc e
  | .bin op a b, sc, e => match e with
    | .BinOp x p y _ => decide (op.py = p) && mE a sc x && mE b sc y
    | _ => false
  | .neg a, sc, e => match e with
    | .UnaryOp .USub x _ => mE a sc x
    | _ => false
  | .not a, sc, e => match e with
    | .UnaryOp .Not x _ => mE a sc x
    | _ => false
  | .cmp op a b, sc, e => match e with
    | .Compare x [p] [y] _ => decide (op.py = p) && mE a sc x && mE b sc y
    | _ => false
  | .chn op op' a b c, sc, e => match e with
    | .Compare x [p, q] [y, z] _ => decide (op.py = p) && decide (op'.py = q) && mE a sc x && mE b sc y && mE c sc z
    | _ => false
  | .bop and es, sc, e => match e with
    | .BoolOp op xs _ => decide (op = bopOf and) && mEs es sc xs
    | _ => false
  | .ite c a b, sc, e => match e with
    | .IfExp t x y _ => mE c sc t && tstB c && mE a sc x && mE b sc y
    | _ => false
  | .idx a i, sc, e => match e with
    | .Subscript x y _ => mE a sc x && mE i sc y
    | _ => false
  | .slc a lo hi, sc, e => match e with
    | .Subscript x (.Slice l h none _) _ => mE a sc x && mO lo sc l && mO hi sc h
    | _ => false
  | .rev a, sc, e => match e with
    | .Subscript x (.Slice none none (some (.UnaryOp .USub (.Constant (.int 1) _ _) _)) _) _ => mE a sc x
    | _ => false
  | .call f es, sc, e => match e with
    | .Call (.Name x _) xs [] _ => decide (m.fs[f]? = some (x, xs.length)) && glB sc x && okN x && mEs es sc xs
    | _ => false
  | .blt b es, sc, e => match e with
    | .Call (.Name x _) (y :: ys) [] _ => decide (x = Str.ofString b.name) && decide (x ∈ m.fr) && glB sc x && okN x && mEs es sc (y :: ys)
    | _ => false
  | .isi a t, sc, e => match e with
    | .Call (.Name x _) [y, .Name z _] [] _ => decide (x = ("isinstance" : Str)) && decide (x ∈ m.fr) && glB sc x && okN x && decide (z = Str.ofString t.name) && decide (z ∈ m.fr) && glB sc z && okN z && mE a sc y
    | _ => false
  | .popL i oe, sc, e => match e with
    | .Call (.Attribute (.Name x _) a apos) xs [] cpos => decide (m.N[i]? = some x) && visB sc x && okN x && decide (a = ("pop" : Str)) && (apos.endLine == cpos.line) && (match xs with
      | [] => mO oe sc none
      | [y] => mO oe sc (some y)
      | _ => false)
    | _ => false
def mEs : Exs → Scope → List Expr → Bool
  | .nil, _, xs => match xs with
    | [] => true
    | _ => false
  | .c e es, sc, xs => match xs with
    | x :: xs => mE e sc x && mEs es sc xs
    | _ => false
def mO : OEx → Scope → Option Expr → Bool
  | .n, _, e => match e with
    | none => true
    | _ => false
  | .s c, sc, e => match e with
    | some x => mE c sc x
    | _ => false
def mC : OEx → Scope → List Expr → Bool
  | .n, _, es => match es with
    | [] => true
    | _ => false
  | .s c, sc, es => match es with
    | [x] => mE c sc x && tstB c
    | _ => false
def mF : Fx → Scope → Expr → Bool
  | .dsp es, sc, e => match e with
    | .List xs _ => mEs es sc xs && decide (es.len ≤ 1000)
    | _ => false
  | .cp1 elt tg it cond vs, sc, e => match e with
    | .ListComp x [⟨t, i, ifs, a⟩] scope _ => decide (a = 0) && mI it sc t i && blkC m.N sc scope (ownOf m.N vs) && decide ((ownOf m.N vs).map (·.2) = vs) && tgIn vs tg && mT m (fbC scope) (relS scope sc) tg t && mC cond (relS scope sc) ifs && mE elt (relS scope sc) x
    | _ => false
  | .cp2 elt tg it cond tg1 it1 cond1 vs vs1, sc, e => match e with
    | .ListComp x [⟨t, i, ifs, a⟩, ⟨t1, i1, ifs1, a1⟩] scope _ => decide (a = 0) && decide (a1 = 0) && mI it sc t i && blkC m.N sc scope (ownOf m.N vs) && decide ((ownOf m.N vs).map (·.2) = vs) && vs1.all (fun j => vs.contains j) && tgIn vs tg && tgIn vs1 tg1
        && mT m (fbC scope) (relS scope sc) tg t && mC cond (relS scope sc) ifs && mI it1 (relS scope sc) t1 i1 && mT m (fbC scope) (relS scope sc) tg1 t1 && mC cond1 (relS scope sc) ifs1 && mE elt (relS scope sc) x
    | _ => false
  | .lof a, sc, e => match e with
    | .Call (.Name x _) [y] [] _ => decide (x = ("list" : Str)) && decide (x ∈ m.fr) && glB sc x && okN x && mE a sc y
    | _ => false
def mI : Src → Scope → Expr → Expr → Bool
  | .seq a, sc, _, e => mE a sc e
  | .rg1 a, sc, _, e => match e with
    | .Call (.Name x _) [y] [] _ => decide (x = ("range" : Str)) && decide (x ∈ m.fr) && glB sc x && okN x && mE a sc y
    | _ => false
  | .rg2 a b, sc, _, e => match e with
    | .Call (.Name x _) [y, z] [] _ => decide (x = ("range" : Str)) && decide (x ∈ m.fr) && glB sc x && okN x && mE a sc y && mE b sc z
    | _ => false
  | .rg3 a b c, sc, _, e => match e with
    | .Call (.Name x _) [y, z, z2] [] _ => decide (x = ("range" : Str)) && decide (x ∈ m.fr) && glB sc x && okN x && mE a sc y && mE b sc z && mE c sc z2
    | _ => false
  | .enm a, sc, t, e => match e with
    | .Call (.Name x _) [y] [] _ => isTupE t && decide (x = ("enumerate" : Str)) && decide (x ∈ m.fr) && glB sc x && okN x && mE a sc y
    | _ => false
  | .zip a b, sc, t, e => match e with
    | .Call (.Name x _) [y, z] [] _ => isTupE t && decide (x = ("zip" : Str)) && decide (x ∈ m.fr) && glB sc x && okN x && mE a sc y && mE b sc z
    | _ => false
end
end
end PV
set_option maxRecDepth 100000
set_option maxHeartbeats 4000000
/-! Expressions: what matches is read as the evaluator evaluates. -/
namespace PV
open PySem PySem.Spec PyProof.Rows L2
structure Ctx where
  P : Program
  w : World
  K : PySem.W.Frag
  mg : Str → Option Value
  base : Heap
  k : Nat
  cf : Nat → List D → Sto → Out D
  gs : List D
  m : MC
/-- the promise of the def f -/
def spF (K : PySem.W.Frag) (cf : Nat → List D → Sto → Out D) (f : Nat) : Sp := fun vs H Q _ => ∃ S φ st ds, SI K S φ H st ∧ RepL K S φ H vs ds ∧ FinE K false S φ H Q (cf f ds st)
structure CtxOk (Γ : Ctx) : Prop where
  nd : Γ.m.N.Nodup
  fn : ∀ f x n, Γ.m.fs[f]? = some (x, n) → ∃ a fd ps, Γ.mg x = some (.ref a) ∧ PySem.W.keepIn Γ.K (.ref a) = true ∧ Binds Γ.K fd ps [] ∧ FnOk Γ.P Γ.w Γ.K Γ.mg Γ.base CX0 Γ.k a fd ps (spF Γ.K Γ.cf f)
  gl : ∀ (k : Nat) x d, Γ.m.gn[k]? = some x → Γ.gs[k]? = some d → ∃ v u, Γ.mg x = some u ∧ RelV v u ∧ Rep Γ.K (fun _ => False) [] (fun _ => none) v d
  fr : ∀ x ∈ Γ.m.fr, Γ.mg x = none
/-- where an expression stands: its scope, the names whose cells were made at the entry -/
structure LC where
  sc : Scope
  fb : Str → Bool
structure Good (Γ : Ctx) (L : LC) (X : Cx) : Prop where
  prog : X.prog = Γ.P
  w : X.w = Γ.w
  K : X.K = Γ.K
  mg : X.mg = Γ.mg
  base : X.base = Γ.base
  N : X.N = Γ.m.N
  calm : X.calm = true
  room : Room Γ.k X.A
  sc : X.env.scope = L.sc
  fn : X.fn = L.fb
theorem Good.rm {Γ : Ctx} {L : LC} {X : Cx} (g : Good Γ L X) : Rm X := ⟨g.calm, by have := g.room.un; omega⟩
def SE (Γ : Ctx) (L : LC) (o : Bool) (e : Expr) (m : Env → Sto → Out D) : Prop :=
  ∃ t : TE, (∀ X, Good Γ L X → PE X e t) ∧ ∀ σ H env st S φ Q, EI Γ.K S φ H σ env → SI Γ.K S φ H st → FinE Γ.K o S φ H Q (m env st) → t σ H Q
def ST (Γ : Ctx) (L : LC) (e : Expr) (m : Env → Sto → Out Bool) : Prop :=
  ∃ t : TT, (∀ X, Good Γ L X → PT X e t) ∧ ∀ σ H env st S φ Q, EI Γ.K S φ H σ env → SI Γ.K S φ H st → FinB Γ.K S φ H Q (m env st) → t σ H Q
def SL (Γ : Ctx) (L : LC) (o : Bool) (es : List Expr) (m : Env → Sto → Out (List D)) : Prop :=
  ∃ t : TA, (∀ X, Good Γ L X → PA X es t) ∧ ∀ σ H env st S φ Q, EI Γ.K S φ H σ env → SI Γ.K S φ H st → FinL Γ.K o S φ H Q (m env st) → t σ H Q
def SO' (Γ : Ctx) (L : LC) (e : Option Expr) (m : Env → Sto → Out (Option Int)) : Prop :=
  ∃ t : TO, (∀ X, Good Γ L X → PO X e t) ∧ ∀ σ H env st S φ Q, EI Γ.K S φ H σ env → SI Γ.K S φ H st → FinB Γ.K S φ H Q (m env st) → t σ H Q
def SC (Γ : Ctx) (L : LC) (es : List Expr) (m : Env → Sto → Out Bool) : Prop :=
  ∃ t : TT, (∀ X, Good Γ L X → PTs X es t) ∧ ∀ σ H env st S φ Q, EI Γ.K S φ H σ env → SI Γ.K S φ H st → FinB Γ.K S φ H Q (m env st) → t σ H Q
/-- a new list of one's own -/
def FinF (K : PySem.W.Frag) (S : Addr → Prop) (φ : List Addr) (H : Hp) (Q : VK) : Out (List D) → Prop
  | .ok ds st' => ∀ a vs H' S' φ', Stp S φ H S' φ' H' → SI K S' φ' H' st' → H a = none → ¬ S' a → a ∉ φ' → H' a = some (.lst vs) → RepL K S' φ' H' vs ds → Q (.ref a) H'
  | .err => False
def SF (Γ : Ctx) (L : LC) (e : Expr) (m : Env → Sto → Out (List D)) : Prop :=
  ∃ t : TE, (∀ X, Good Γ L X → PE X e t) ∧ ∀ σ H env st S φ Q, EI Γ.K S φ H σ env → SI Γ.K S φ H st → FinF Γ.K S φ H Q (m env st) → t σ H Q
/-- an iterator that gives ds, while what it leans on stands -/
def JOk (K : PySem.W.Frag) (o : Bool) (S : Addr → Prop) (φ : List Addr) (H : Hp) (J : It) (ds : List D) : Prop :=
  ∃ wt : List Addr, (∀ a ∈ wt, H a ≠ none ∧ a ∉ φ ∧ (o = false → S a)) ∧
    ∀ S2 φ2 H2, (∀ a ∈ wt, H2 a = H a) → (∀ a, S a → H2 a = H a) → (∀ a, S a → S2 a) → (∃ ψ, φ2 = φ ++ ψ) →
      (∀ i, i < ds.length → J.go i H2) ∧ J.stop ds.length H2 ∧ ∀ (i : Nat) d x H3, ds[i]? = some d → J.yld i H2 x H3 → ∀ st2, SI K S2 φ2 H2 st2 →
        ∃ S3, Stp S2 φ2 H2 S3 φ2 H3 ∧ SI K S3 φ2 H3 st2 ∧ Rep K S3 φ2 H3 x d
def FinS (K : PySem.W.Frag) (o : Bool) (S : Addr → Prop) (φ : List Addr) (H : Hp) (R : It → Hp → Prop) : Out (List D) → Prop
  | .ok ds st' => ∀ J H' S' φ', Stp S φ H S' φ' H' → SI K S' φ' H' st' → JOk K o S' φ' H' J ds → R J H'
  | .err => False
def SS (Γ : Ctx) (L : LC) (o : Bool) (tg e : Expr) (m : Env → Sto → Out (List D)) : Prop :=
  ∃ t : TI, (∀ X, Good Γ L X → PI X tg e t) ∧ ∀ σ H env st S φ R, EI Γ.K S φ H σ env → SI Γ.K S φ H st → FinS Γ.K o S φ H R (m env st) → t σ H R
/-- the lists of one's own stand where they stood -/
def Kept (env : Env) (σ : L2.St) (env' : Env) (σ' : L2.St) : Prop := ∀ (i : Nat) ds, env'[i]? = some (some (.own ds)) → env[i]? = some (some (.own ds)) ∧ σ'[i]? = σ[i]?
theorem Kept.trans {env env1 env2 : Env} {σ σ1 σ2 : L2.St} (h : Kept env σ env1 σ1) (k : Kept env1 σ1 env2 σ2) : Kept env σ env2 σ2 := fun i ds e =>
  let ⟨a, b⟩ := k i ds e
  let ⟨c, d⟩ := h i ds a
  ⟨c, b.trans d⟩
def SG (Γ : Ctx) (L : LC) (tg : Expr) (c : Tg) : Prop :=
  ∃ g : TG, (∀ X, Good Γ L X → PG X tg g) ∧ ∀ v d σ H env env' S φ st (Q : L2.St → Hp → Prop), EI Γ.K S φ H σ env → SI Γ.K S φ H st → Rep Γ.K S φ H v d → bindT c d env = some env' →
    (∀ σ', ((∀ vs, tgIn vs c = true → wipe σ' vs = wipe σ vs) ∧ Kept env σ env' σ') → EI Γ.K S φ H σ' env' → Q σ' H) → g v σ H Q
section
variable {Γ : Ctx} {L : LC} {o : Bool} {e a b : Expr}
/-! ### outcomes in a row -/
theorem FinE.bind {α : Type} {K : PySem.W.Frag} {S : Addr → Prop} {φ : List Addr} {H : Hp} {Q : VK} {m : Out α} {f : α → Sto → Out D} (h : FinE K o S φ H Q (m.bind f)) : ∃ x st, m = .ok x st ∧ FinE K o S φ H Q (f x st) := by
  cases m with
  | ok x st => exact ⟨x, st, rfl, h⟩
  | err => exact h.elim
theorem FinL.bind {α : Type} {K : PySem.W.Frag} {S : Addr → Prop} {φ : List Addr} {H : Hp} {Q : List V → Hp → Prop} {m : Out α} {f : α → Sto → Out (List D)} (h : FinL K o S φ H Q (m.bind f)) : ∃ x st, m = .ok x st ∧ FinL K o S φ H Q (f x st) := by
  cases m with
  | ok x st => exact ⟨x, st, rfl, h⟩
  | err => exact h.elim
theorem FinB.bind {α β : Type} {K : PySem.W.Frag} {S : Addr → Prop} {φ : List Addr} {H : Hp} {Q : β → Hp → Prop} {m : Out α} {f : α → Sto → Out β} (h : FinB K S φ H Q (m.bind f)) : ∃ x st, m = .ok x st ∧ FinB K S φ H Q (f x st) := by
  cases m with
  | ok x st => exact ⟨x, st, rfl, h⟩
  | err => exact h.elim
theorem FinF.bind {α : Type} {K : PySem.W.Frag} {S : Addr → Prop} {φ : List Addr} {H : Hp} {Q : VK} {m : Out α} {f : α → Sto → Out (List D)} (h : FinF K S φ H Q (m.bind f)) : ∃ x st, m = .ok x st ∧ FinF K S φ H Q (f x st) := by
  cases m with
  | ok x st => exact ⟨x, st, rfl, h⟩
  | err => exact h.elim
theorem FinS.bind {α : Type} {K : PySem.W.Frag} {S : Addr → Prop} {φ : List Addr} {H : Hp} {R : It → Hp → Prop} {m : Out α} {f : α → Sto → Out (List D)} (h : FinS K o S φ H R (m.bind f)) : ∃ x st, m = .ok x st ∧ FinS K o S φ H R (f x st) := by
  cases m with
  | ok x st => exact ⟨x, st, rfl, h⟩
  | err => exact h.elim
theorem FinF.stp {K : PySem.W.Frag} {S S' : Addr → Prop} {φ φ' : List Addr} {H H' : Hp} {Q : VK} {m : Out (List D)} (x : Stp S φ H S' φ' H') (h : FinF K S φ H Q m) : FinF K S' φ' H' Q m := by
  cases m with
  | ok d st => exact fun a vs H2 S2 φ2 p q r => h a vs H2 S2 φ2 (x.trans p) q (x.free r)
  | err => exact h
theorem FinS.stp {K : PySem.W.Frag} {S S' : Addr → Prop} {φ φ' : List Addr} {H H' : Hp} {R : It → Hp → Prop} {m : Out (List D)} (x : Stp S φ H S' φ' H') (h : FinS K o S φ H R m) : FinS K o S' φ' H' R m := by
  cases m with
  | ok d st => exact fun J H2 S2 φ2 p q => h J H2 S2 φ2 (x.trans p) q
  | err => exact h
theorem lift_ok {α : Type} {x : Option α} {s : Sto} {a : α} {s' : Sto} (h : lift x s = .ok a s') : x = some a ∧ s' = s := by
  cases x with
  | none => cases h
  | some y => cases h; exact ⟨rfl, rfl⟩
theorem FinE.lift {K : PySem.W.Frag} {S : Addr → Prop} {φ : List Addr} {H : Hp} {Q : VK} {x : Option D} {s : Sto} (h : FinE K o S φ H Q (lift x s)) : ∃ d, x = some d ∧ FinE K o S φ H Q (.ok d s) := by
  cases x with
  | none => exact h.elim
  | some y => exact ⟨y, rfl, h⟩
theorem FinB.lift {α : Type} {K : PySem.W.Frag} {S : Addr → Prop} {φ : List Addr} {H : Hp} {Q : α → Hp → Prop} {x : Option α} {s : Sto} (h : FinB K S φ H Q (lift x s)) : ∃ d, x = some d ∧ FinB K S φ H Q (.ok d s) := by
  cases x with
  | none => exact h.elim
  | some y => exact ⟨y, rfl, h⟩
/-- a part evaluated: then the rest from where it came to -/
theorem SE.use {t : TE} {m : Env → Sto → Out D} (h : ∀ σ H env st S φ Q, EI Γ.K S φ H σ env → SI Γ.K S φ H st → FinE Γ.K o S φ H Q (m env st) → t σ H Q)
    {σ : L2.St} {H : Hp} {env : Env} {st st' : Sto} {S : Addr → Prop} {φ : List Addr} {Q : VK} {d : D} (E : EI Γ.K S φ H σ env) (I : SI Γ.K S φ H st) (em : m env st = .ok d st')
    (q : ∀ v H' S' φ', Stp S φ H S' φ' H' → EI Γ.K S' φ' H' σ env → SI Γ.K S' φ' H' st' → RepM o Γ.K S' φ' H' v d → Q v H') : t σ H Q :=
  h σ H env st S φ Q E I (by rw [em]; exact fun v H' S' φ' x I' r => q v H' S' φ' x (E.mono x I) I' r)
theorem SB.use {α : Type} {t : L2.St → Hp → (α → Hp → Prop) → Prop} {m : Env → Sto → Out α} (h : ∀ σ H env st S φ Q, EI Γ.K S φ H σ env → SI Γ.K S φ H st → FinB Γ.K S φ H Q (m env st) → t σ H Q)
    {σ : L2.St} {H : Hp} {env : Env} {st st' : Sto} {S : Addr → Prop} {φ : List Addr} {Q : α → Hp → Prop} {d : α} (E : EI Γ.K S φ H σ env) (I : SI Γ.K S φ H st) (em : m env st = .ok d st')
    (q : ∀ H' S' φ', Stp S φ H S' φ' H' → EI Γ.K S' φ' H' σ env → SI Γ.K S' φ' H' st' → Q d H') : t σ H Q :=
  h σ H env st S φ Q E I (by rw [em]; exact fun H' S' φ' x I' => q H' S' φ' x (E.mono x I) I')
theorem SLL.use {t : TA} {m : Env → Sto → Out (List D)} (h : ∀ σ H env st S φ Q, EI Γ.K S φ H σ env → SI Γ.K S φ H st → FinL Γ.K o S φ H Q (m env st) → t σ H Q)
    {σ : L2.St} {H : Hp} {env : Env} {st st' : Sto} {S : Addr → Prop} {φ : List Addr} {Q : List V → Hp → Prop} {d : List D} (E : EI Γ.K S φ H σ env) (I : SI Γ.K S φ H st) (em : m env st = .ok d st')
    (q : ∀ vs H' S' φ', Stp S φ H S' φ' H' → EI Γ.K S' φ' H' σ env → SI Γ.K S' φ' H' st' → Paired (RepM o Γ.K S' φ' H') vs d → Q vs H') : t σ H Q :=
  h σ H env st S φ Q E I (by rw [em]; exact fun v H' S' φ' x I' r => q v H' S' φ' x (E.mono x I) I' r)

/-! ### names, constants -/
theorem okN_of {x : Str} (h : okN x = true) : (x == ("__debug__" : Str)) = false ∧ (x == ("__classdict__" : Str)) = false ∧ x ≠ "__name__" := by
  unfold okN at h
  simp only [Bool.and_eq_true, Bool.not_eq_true'] at h
  exact ⟨h.1.1, h.1.2, fun e => by have := h.2; rw [e] at this; simp at this⟩
theorem vis_of {sc : Scope} {x : Str} (h : visB sc x = true) : Vis sc x := by
  unfold visB at h
  split at h
  · rename_i e; exact .inl e
  · rename_i e; exact .inr (.inl e)
  · rename_i e; exact .inr (.inr e)
  · cases h
theorem loc_of {sc : Scope} {x : Str} (h : locB sc x = true) : Loc sc x := by
  unfold locB at h
  split at h
  · rename_i e; exact .inl e
  · rename_i e; exact .inr e
  · cases h
theorem gl_of {sc : Scope} {x : Str} (h : glB sc x = true) : sc.names.lookup x = some .globalImplicit := by
  unfold glB at h
  split at h
  · assumption
  · cases h
theorem Good.gl {X : Cx} (g : Good Γ L X) {x : Str} (h : glB L.sc x = true) : Gl X x := by
  show X.env.scope.names.lookup x = _
  rw [g.sc]; exact gl_of h
theorem se_var {i : Nat} (cf gs) (h : mE Γ.m (.var i) L.sc e = true) : SE Γ L o e (ev cf gs o (.var i)) := by
  unfold mE at h
  split at h
  · rename_i x pos
    simp only [Bool.and_eq_true, decide_eq_true_eq] at h
    obtain ⟨⟨h1, h2⟩, h3⟩ := h
    obtain ⟨n1, n2, _⟩ := okN_of h3
    refine ⟨tVar i, fun X g => pe_var (by rw [g.N]; exact h1) (by rw [g.sc]; exact vis_of h2) n1 n2, fun σ H env st S φ Q E I f => ?_⟩
    unfold ev at f
    split at f
    · rename_i d he
      obtain ⟨v, e1, r⟩ := E.val i d he
      exact ⟨v, e1, f v H S φ .refl I (.inl r)⟩
    · rename_i ds he
      split at f
      · rename_i ho
        obtain ⟨a, vs, e1, e2, _, e4, r⟩ := E.own i ds he
        exact ⟨_, e1, f _ H S φ .refl I (.inr ⟨ho, a, vs, ds, rfl, rfl, e4, e2, r⟩)⟩
      · exact f.elim
    · exact f.elim
  · cases h
theorem se_const {v : V} {d : D} {m : Env → Sto → Out D} (hp : ∀ X : Cx, PE X e (tC v)) (hm : ∀ env s, m env s = .ok d s) (r : ∀ K S φ H, Rep K S φ H v d) : SE Γ L o e m :=
  ⟨tC v, fun X _ => hp X, fun σ H env st S φ Q E I f => by rw [hm] at f; exact f v H S φ .refl I (.inl (r _ _ _ _))⟩
theorem se_gl (Γok : CtxOk Γ) {k : Nat} (h : mE Γ.m (.gl k) L.sc e = true) : SE Γ L o e (ev Γ.cf Γ.gs o (.gl k)) := by
  unfold mE at h
  split at h
  · rename_i x pos
    simp only [Bool.and_eq_true, decide_eq_true_eq] at h
    obtain ⟨⟨h1, h2⟩, h3⟩ := h
    obtain ⟨n1, n2, _⟩ := okN_of h3
    cases hg : Γ.gs[k]? with
    | none => exact ⟨fun _ _ _ => False, fun X g => ⟨fun _ _ _ _ _ _ q => q.elim⟩, fun σ H env st S φ Q E I f => by unfold ev at f; rw [hg] at f; exact f⟩
    | some d =>
      obtain ⟨v, u, e1, e2, r⟩ := Γok.gl k x d h1 hg
      refine ⟨tC v, fun X g => pe_glob (g.gl h2) (by rw [g.mg]; exact e1) e2 n1, fun σ H env st S φ Q E I f => ?_⟩
      unfold ev at f
      rw [hg] at f
      exact f v H S φ .refl I (.inl r.ofK)
  · cases h

/-! ### lists of expressions -/
theorem star_of {m : MC} {c : Ex} {sc : Scope} {es : List Expr} {env : PySem.Env} (h : mE m c sc e = true) : starEach (e :: es) env = (false, eval e env) :: starEach es env := by
  cases e with
  | Starred x p =>
    exfalso
    cases c with
    | fz f => unfold mE at h; cases f <;> simp [mF] at h
    | alloc f => unfold mE at h; cases f <;> simp [mF] at h
    | _ => simp [mE] at h
  | _ => rfl
theorem sl_nil {cf gs} : SL Γ L o [] (evL cf gs o .nil) :=
  ⟨tNil, fun X _ => pa_nil, fun σ H env st S φ Q E I f => by unfold evL at f; exact f [] H S φ .refl I .nil⟩
theorem sl_cons {c : Ex} {cs : Exs} {es : List Expr} {cf gs} (hs : ∀ env, starEach (e :: es) env = (false, eval e env) :: starEach es env) (h1 : SE Γ L o e (ev cf gs o c)) (h2 : SL Γ L o es (evL cf gs o cs)) : SL Γ L o (e :: es) (evL cf gs o (.c c cs)) := by
  obtain ⟨t1, p1, q1⟩ := h1
  obtain ⟨t2, p2, q2⟩ := h2
  refine ⟨tCons t1 t2, fun X g => pa_cons (p1 X g) (p2 X g) (hs _), fun σ H env st S φ Q E I f => ?_⟩
  unfold evL at f
  obtain ⟨d, s1, e1, f⟩ := f.bind
  obtain ⟨ds, s2, e2, f⟩ := f.bind
  refine SE.use q1 E I e1 fun v H1 S1 φ1 x1 E1 I1 r1 => ?_
  refine SLL.use q2 E1 I1 e2 fun vs H2 S2 φ2 x2 E2 I2 r2 => ?_
  exact f _ H2 S2 φ2 (x1.trans x2) I2 (.cons (r1.mono x2 I1) r2)
theorem reps_of {K : PySem.W.Frag} {S : Addr → Prop} {φ : List Addr} {H : Hp} : ∀ {vs : List V} {ds : List D}, Paired (RepM false K S φ H) vs ds → RepL K S φ H vs ds
  | _, _, .nil => .nil
  | _, _, .cons a b => .cons a.val (reps_of b)
theorem evL_len {cf gs} : ∀ {es : Exs} {env : Env} {st st' : Sto} {ds : List D}, evL cf gs o es env st = .ok ds st' → ds.length = es.len
  | .nil, _, _, _, _, h => by unfold evL at h; cases h; rfl
  | .c e es, env, st, _, ds, h => by
    unfold evL at h
    cases h1 : ev cf gs o e env st with
    | err => rw [h1] at h; cases h
    | ok d s1 =>
      rw [h1] at h
      cases h2 : evL cf gs o es env s1 with
      | err => simp only [Out.bind, h2] at h; cases h
      | ok r s2 =>
        simp only [Out.bind, h2] at h
        cases h
        simp only [List.length_cons, Exs.len, evL_len h2]
theorem se_tup {es : Exs} {xs : List Expr} {k : Nat} {pos : Pos} {cf gs} (hz : es.len ≤ 1000) (h : SL Γ L false xs (evL cf gs false es)) : SE Γ L o (.Tuple xs k pos) (ev cf gs o (.tup es)) := by
  obtain ⟨t, p, q⟩ := h
  refine ⟨tTup t, fun X g => pe_tup (p X g), fun σ H env st S φ Q E I f => ?_⟩
  unfold ev at f
  obtain ⟨ds, s1, e1, f⟩ := f.bind
  refine SLL.use q E I e1 fun vs H1 S1 φ1 x1 E1 I1 r1 => ?_
  have r := reps_of r1
  refine ⟨by rw [line_eq, r.length, evL_len e1]; show _ ≤ 16777216; omega, fun a ha => ?_⟩
  exact f _ _ _ _ (x1.trans (Stp.alloc ha)) (I1.alloc ha) (.inl (rep_tup I1 ha r))

/-! ### operators -/
theorem RepM.rdm {o : Bool} {K : PySem.W.Frag} {S : Addr → Prop} {φ : List Addr} {H : Hp} {st : Sto} {v : V} {d : D} (h : RepM o K S φ H v d) (I : SI K S φ H st) : RepD K S φ H v (deref st d) := h.rd I
theorem se_bin {op : BOp} {ca cb : Ex} {cf gs} {pos : Pos} (h1 : SE Γ L true a (ev cf gs true ca)) (h2 : SE Γ L true b (ev cf gs true cb)) : SE Γ L o (.BinOp a op.py b pos) (ev cf gs o (.bin op ca cb)) := by
  obtain ⟨t1, p1, q1⟩ := h1
  obtain ⟨t2, p2, q2⟩ := h2
  obtain ⟨r, hr, hs⟩ := bin_rule op Γ.K
  refine ⟨tOp r t1 t2, fun X g => pe_op (hr X g.K g.rm) (p1 X g) (p2 X g), fun σ H env st S φ Q E I f => ?_⟩
  unfold ev at f
  obtain ⟨d1, s1, e1, f⟩ := f.bind
  obtain ⟨d2, s2, e2, f⟩ := f.bind
  obtain ⟨d, ed, f⟩ := f.lift
  refine SE.use q1 E I e1 fun v H1 S1 φ1 x1 E1 I1 r1 => ?_
  refine SE.use q2 E1 I1 e2 fun w H2 S2 φ2 x2 E2 I2 r2 => ?_
  exact hs S2 φ2 H2 s2 v w _ _ d Q I2 ((r1.mono x2 I1).rd I2) (r2.rd I2) ed fun u H3 S3 x3 I3 r3 => f u H3 S3 φ2 ((x1.trans x2).trans x3) I3 (.inl r3)
theorem se_neg {ca : Ex} {cf gs} {pos : Pos} (h1 : SE Γ L true a (ev cf gs true ca)) : SE Γ L o (.UnaryOp .USub a pos) (ev cf gs o (.neg ca)) := by
  obtain ⟨t1, p1, q1⟩ := h1
  refine ⟨tUn (rU fun i => .int (-i)) t1, fun X g => pe_un un_neg (p1 X g), fun σ H env st S φ Q E I f => ?_⟩
  unfold ev at f
  obtain ⟨d1, s1, e1, f⟩ := f.bind
  refine SE.use q1 E I e1 fun v H1 S1 φ1 x1 E1 I1 r1 => ?_
  split at f
  · have := r1.rd0.int
    exact ⟨_, this, f _ _ _ _ x1 I1 (.inl (.int _))⟩
  · exact f.elim
/-- a comparison, as a value and as a test -/
theorem sx_cmp {op : COp} {ca cb : Ex} {cf gs} {pos : Pos} (h1 : SE Γ L true a (ev cf gs true ca)) (h2 : SE Γ L true b (ev cf gs true cb)) :
    ∃ t : TE, (∀ X, Good Γ L X → PE X (.Compare a [op.py] [b] pos) t ∧ PT X (.Compare a [op.py] [b] pos) (tTest t)) ∧ ∀ σ H env st S φ Q, EI Γ.K S φ H σ env → SI Γ.K S φ H st → FinE Γ.K o S φ H Q (ev cf gs o (.cmp op ca cb) env st) → t σ H Q := by
  obtain ⟨t1, p1, q1⟩ := h1
  obtain ⟨t2, p2, q2⟩ := h2
  obtain ⟨r, hr, hs⟩ := cmp_rule op Γ.K
  have hm : ∀ b, behindInMarks op.py b = false := fun b => nomark b (by cases op <;> decide) (by cases op <;> decide)
  refine ⟨tOp r t1 t2, fun X g => ⟨pe_cmpR (hr X g.K g.rm) (p1 X g) (p2 X g) (hm _), pt_cmpR (hr X g.K g.rm) (p1 X g) (p2 X g) (hm _)⟩, fun σ H env st S φ Q E I f => ?_⟩
  unfold ev at f
  obtain ⟨d1, s1, e1, f⟩ := f.bind
  obtain ⟨d2, s2, e2, f⟩ := f.bind
  obtain ⟨d, s3, ed, f3⟩ := f.bind
  obtain ⟨ed, rfl⟩ := lift_ok ed
  refine SE.use q1 E I e1 fun v H1 S1 φ1 x1 E1 I1 r1 => ?_
  refine SE.use q2 E1 I1 e2 fun w H2 S2 φ2 x2 E2 I2 r2 => ?_
  exact hs S2 φ2 H2 v w _ _ d Q ((r1.mono x2 I1).rd I2) (r2.rd I2) ed (f3 _ H2 S2 φ2 (x1.trans x2) I2 (.inl (.bl _)))
theorem sx_chn {op op' : COp} {c : Expr} {ca cb cc : Ex} {cf gs} {pos : Pos} (h1 : SE Γ L true a (ev cf gs true ca)) (h2 : SE Γ L true b (ev cf gs true cb)) (h3 : SE Γ L true c (ev cf gs true cc)) :
    ∃ t : TE, (∀ X, Good Γ L X → PE X (.Compare a [op.py, op'.py] [b, c] pos) t ∧ PT X (.Compare a [op.py, op'.py] [b, c] pos) (tTest t)) ∧ ∀ σ H env st S φ Q, EI Γ.K S φ H σ env → SI Γ.K S φ H st → FinE Γ.K o S φ H Q (ev cf gs o (.chn op op' ca cb cc) env st) → t σ H Q := by
  obtain ⟨t1, p1, q1⟩ := h1
  obtain ⟨t2, p2, q2⟩ := h2
  obtain ⟨t3, p3, q3⟩ := h3
  obtain ⟨r, hr, hs⟩ := cmp_rule op Γ.K
  obtain ⟨r', hr', hs'⟩ := cmp_rule op' Γ.K
  have hm : ∀ b c, lastMarks [op.py, op'.py] [b, c] = false := fun b c => by
    show behindInMarks op'.py c = false
    exact nomark c (by cases op' <;> decide) (by cases op' <;> decide)
  refine ⟨tChain r r' t1 t2 t3, fun X g => ⟨pe_chain (hr X g.K g.rm) (hr' X g.K g.rm) (p1 X g) (p2 X g) (p3 X g) (hm _ _), pt_chain (hr X g.K g.rm) (hr' X g.K g.rm) (p1 X g) (p2 X g) (p3 X g) (hm _ _)⟩, fun σ H env st S φ Q E I f => ?_⟩
  unfold ev at f
  obtain ⟨d1, s1, e1, f⟩ := f.bind
  obtain ⟨d2, s2, e2, f⟩ := f.bind
  obtain ⟨k, s3, ed, f9⟩ := f.bind
  obtain ⟨ed, rfl⟩ := lift_ok ed
  clear f
  refine SE.use q1 E I e1 fun v H1 S1 φ1 x1 E1 I1 r1 => ?_
  refine SE.use q2 E1 I1 e2 fun w H2 S2 φ2 x2 E2 I2 r2 => ?_
  refine hs S2 φ2 H2 v w _ _ k _ ((r1.mono x2 I1).rd I2) (r2.rd I2) ed ⟨k, rfl, ?_⟩
  cases k with
  | true =>
    rw [if_pos rfl] at f9 ⊢
    obtain ⟨d3, s4, e3, f8⟩ := f9.bind
    obtain ⟨k2, s5, ed2, f7⟩ := f8.bind
    obtain ⟨ed2, rfl⟩ := lift_ok ed2
    refine SE.use q3 E2 I2 e3 fun z H3 S3 φ3 x3 E3 I3 r3 => ?_
    exact hs' S3 φ3 H3 w z _ _ k2 Q ((r2.mono x3 I2).rd I3) (r3.rd I3) ed2 (f7 _ H3 S3 φ3 ((x1.trans x2).trans x3) I3 (.inl (.bl _)))
  | false =>
    rw [if_neg Bool.false_ne_true] at f9 ⊢
    exact f9 _ H2 S2 φ2 (x1.trans x2) I2 (.inl (.bl _))
/-- a test that is a value's truth -/
theorem truth_fin {K : PySem.W.Frag} {S : Addr → Prop} {φ : List Addr} {H : Hp} {Q : Bool → Hp → Prop} {m : Out D} (f : FinB K S φ H Q (m.bind fun d s => truthS s d)) :
    FinE K true S φ H (fun x H' => ∃ k, TruV K x H' k ∧ Q k H') m := by
  obtain ⟨d, s1, e1, f⟩ := f.bind
  obtain ⟨k, ek, f⟩ := FinB.lift f
  rw [e1]
  exact fun v H' S' φ' x I r => ⟨k, truV (r.rd I) ek, f H' S' φ' x I⟩
theorem st_of {m : Env → Sto → Out D} (he : ∀ env whole, isTrue e env whole = (do let v ← whole; standAt e.pos; holding [v] (truthy v))) (h : SE Γ L true e m) : ST Γ L e fun env s => (m env s).bind fun d s => truthS s d := by
  obtain ⟨t, p, q⟩ := h
  exact ⟨fun σ H Q => t σ H fun x H' => ∃ k, TruV Γ.K x H' k ∧ Q k H', fun X g => by rw [← g.K]; exact pt_truth (p X g) (he _), fun σ H env st S φ Q E I f => q σ H env st S φ _ E I (truth_fin f)⟩
/-- a test whose value is a bool -/
theorem st_bl {t : TE} {m : Env → Sto → Out D} (hb : ∀ env s d s', m env s = .ok d s' → ∃ b, d = .bl b)
    (q : ∀ σ H env st S φ Q, EI Γ.K S φ H σ env → SI Γ.K S φ H st → FinE Γ.K true S φ H Q (m env st) → t σ H Q) {σ : L2.St} {H : Hp} {env : Env} {st : Sto} {S : Addr → Prop} {φ : List Addr} {Q : Bool → Hp → Prop}
    (E : EI Γ.K S φ H σ env) (I : SI Γ.K S φ H st) (f : FinB Γ.K S φ H Q ((m env st).bind fun d s => truthS s d)) : tTest t σ H Q := by
  obtain ⟨d, s1, e1, f⟩ := f.bind
  obtain ⟨b, rfl⟩ := hb _ _ _ _ e1
  refine q σ H env st S φ _ E I ?_
  rw [e1]
  exact fun v H' S' φ' x I' r => ⟨b, r.rd0.bl, f H' S' φ' x I'⟩
theorem ev_cmp_bl {op : COp} {ca cb : Ex} {cf gs} {env : Env} {s s' : Sto} {d : D} (h : ev cf gs o (.cmp op ca cb) env s = .ok d s') : ∃ b, d = .bl b := by
  unfold ev at h
  cases h1 : ev cf gs true ca env s with
  | err => rw [h1] at h; cases h
  | ok d1 s1 =>
    simp only [h1, Out.bind] at h
    cases h2 : ev cf gs true cb env s1 with
    | err => rw [h2] at h; cases h
    | ok d2 s2 =>
      simp only [h2] at h
      cases h3 : lift (cmpD op (deref s2 d1) (deref s2 d2)) s2 with
      | err => rw [h3] at h; cases h
      | ok b s3 => rw [h3] at h; cases h; exact ⟨_, rfl⟩
theorem ev_chn_bl {op op' : COp} {ca cb cc : Ex} {cf gs} {env : Env} {s s' : Sto} {d : D} (h : ev cf gs o (.chn op op' ca cb cc) env s = .ok d s') : ∃ b, d = .bl b := by
  unfold ev at h
  cases h1 : ev cf gs true ca env s with
  | err => rw [h1] at h; cases h
  | ok d1 s1 =>
    simp only [h1, Out.bind] at h
    cases h2 : ev cf gs true cb env s1 with
    | err => rw [h2] at h; cases h
    | ok d2 s2 =>
      simp only [h2] at h
      cases h3 : lift (cmpD op (deref s2 d1) (deref s2 d2)) s2 with
      | err => rw [h3] at h; cases h
      | ok b s3 =>
        simp only [h3] at h
        cases b with
        | false => rw [if_neg Bool.false_ne_true] at h; cases h; exact ⟨_, rfl⟩
        | true =>
          rw [if_pos rfl] at h
          cases h4 : ev cf gs true cc env s3 with
          | err => rw [h4] at h; cases h
          | ok d4 s4 =>
            simp only [h4] at h
            cases h5 : lift (cmpD op' (deref s4 d2) (deref s4 d4)) s4 with
            | err => rw [h5] at h; cases h
            | ok b5 s5 => rw [h5] at h; cases h; exact ⟨_, rfl⟩
theorem se_not {ca : Ex} {cf gs} {pos : Pos} (h1 : SE Γ L true a (ev cf gs true ca)) : SE Γ L o (.UnaryOp .Not a pos) (ev cf gs o (.not ca)) := by
  obtain ⟨t1, p1, q1⟩ := h1
  refine ⟨tNotT Γ.K t1, fun X g => by rw [← g.K]; exact pe_notT (p1 X g), fun σ H env st S φ Q E I f => ?_⟩
  unfold ev at f
  obtain ⟨d1, s1, e1, f⟩ := f.bind
  obtain ⟨k, s2, ek, f3⟩ := f.bind
  obtain ⟨ek, rfl⟩ := lift_ok ek
  refine SE.use q1 E I e1 fun v H1 S1 φ1 x1 E1 I1 r1 => ?_
  exact ⟨k, truV (r1.rd I1) ek, f3 _ _ _ _ x1 I1 (.inl (.bl _))⟩
theorem st_not {ca : Ex} {cf gs} {pos : Pos} (h1 : ST Γ L a fun env s => (ev cf gs true ca env s).bind fun d s => truthS s d) : ST Γ L (.UnaryOp .Not a pos) fun env s => (ev cf gs true (.not ca) env s).bind fun d s => truthS s d := by
  obtain ⟨t1, p1, q1⟩ := h1
  refine ⟨tNot t1, fun X g => pt_not (p1 X g), fun σ H env st S φ Q E I f => ?_⟩
  obtain ⟨d, s1, e1, f⟩ := f.bind
  unfold ev at e1
  refine q1 σ H env st S φ _ E I ?_
  cases h1 : ev cf gs true ca env st with
  | err => rw [h1] at e1; cases e1
  | ok d1 s2 =>
    simp only [h1, Out.bind] at e1 ⊢
    cases h2 : truthS s2 d1 with
    | err => rw [h2] at e1; cases e1
    | ok k s3 => rw [h2] at e1; cases e1; exact fun H' S' φ' x I' => f H' S' φ' x I'
theorem se_ite {c : Expr} {cc ca cb : Ex} {cf gs} {pos : Pos} (h1 : ST Γ L c fun env s => (ev cf gs true cc env s).bind fun d s => truthS s d) (h2 : SE Γ L false a (ev cf gs false ca)) (h3 : SE Γ L false b (ev cf gs false cb)) :
    SE Γ L o (.IfExp c a b pos) (ev cf gs o (.ite cc ca cb)) := by
  obtain ⟨t1, p1, q1⟩ := h1
  obtain ⟨t2, p2, q2⟩ := h2
  obtain ⟨t3, p3, q3⟩ := h3
  refine ⟨tIf t1 t2 t3, fun X g => pe_ifExp (p1 X g) (p2 X g) (p3 X g), fun σ H env st S φ Q E I f => ?_⟩
  unfold ev at f
  obtain ⟨d1, s1, e1, f⟩ := f.bind
  obtain ⟨k, s2, ek, f⟩ := f.bind
  refine q1 σ H env st S φ _ E I ?_
  simp only [e1, Out.bind, ek]
  intro H1 S1 φ1 x1 I1
  have up : ∀ {m : Out D}, FinE Γ.K o S φ H Q m → FinE Γ.K false S1 φ1 H1 Q m := fun {m} h => by
    cases m with
    | err => exact h
    | ok d s => exact fun v H' S' φ' x I' r => h v H' S' φ' (x1.trans x) I' (.inl r.val)
  cases k with
  | true => exact q2 σ H1 env s2 S1 φ1 Q (E.mono x1 I) I1 (up f)
  | false => exact q3 σ H1 env s2 S1 φ1 Q (E.mono x1 I) I1 (up f)

/-! ### and, or -/
theorem se_bop1 {and : Bool} {ca : Ex} {cf gs} {pos : Pos} (h : SE Γ L o a (ev cf gs o ca)) : SE Γ L o (.BoolOp (bopOf and) [a] pos) (evB cf gs o and (.c ca .nil)) := by
  obtain ⟨t, p, q⟩ := h
  exact ⟨t, fun X g => pe_one (p X g), fun σ H env st S φ Q E I f => q σ H env st S φ Q E I (by unfold evB at f; exact f)⟩
theorem se_bopc {and : Bool} {ca cb : Ex} {cs : Exs} {rest : List Expr} {cf gs} {pos : Pos} (h : SE Γ L o a (ev cf gs o ca)) (h2 : SE Γ L o (.BoolOp (bopOf and) (b :: rest) pos) (evB cf gs o and (.c cb cs))) :
    SE Γ L o (.BoolOp (bopOf and) (a :: b :: rest) pos) (evB cf gs o and (.c ca (.c cb cs))) := by
  obtain ⟨t1, p1, q1⟩ := h
  obtain ⟨t2, p2, q2⟩ := h2
  have sem : ∀ (σ : L2.St) (H : Hp) (env : Env) (st : Sto) (S : Addr → Prop) (φ : List Addr) (Q : VK), EI Γ.K S φ H σ env → SI Γ.K S φ H st → FinE Γ.K o S φ H Q (evB cf gs o and (.c ca (.c cb cs)) env st) →
      t1 σ H fun x H1 => ∃ k, TruV Γ.K x H1 k ∧ if k = and then t2 σ H1 Q else Q x H1 := by
    intro σ H env st S φ Q E I f
    unfold evB at f
    obtain ⟨d1, s1, e1, f1⟩ := f.bind
    obtain ⟨k, s2, ek, f2⟩ := f1.bind
    obtain ⟨ek, rfl⟩ := lift_ok ek
    refine SE.use q1 E I e1 fun v H1 S1 φ1 x1 E1 I1 r1 => ⟨k, truV (r1.rd I1) ek, ?_⟩
    by_cases hk : k = and
    · rw [if_pos hk] at f2 ⊢
      exact q2 σ H1 env s2 S1 φ1 Q E1 I1 (f2.stp x1)
    · rw [if_neg hk] at f2 ⊢
      exact f2 v H1 S1 φ1 x1 I1 r1
  cases and with
  | true => exact ⟨tAndT Γ.K t1 t2, fun X g => by rw [← g.K]; exact pe_andT (p1 X g) (p2 X g), sem⟩
  | false =>
    refine ⟨tOrT Γ.K t1 t2, fun X g => by rw [← g.K]; exact pe_orT (p1 X g) (p2 X g), fun σ H env st S φ Q E I f => ?_⟩
    have := sem σ H env st S φ Q E I f
    have e : (fun x H1 => ∃ k, TruV Γ.K x H1 k ∧ if k = true then Q x H1 else t2 σ H1 Q) = (fun x H1 => ∃ k, TruV Γ.K x H1 k ∧ if k = false then t2 σ H1 Q else Q x H1) := by
      funext x H1
      apply propext
      constructor
      · rintro ⟨k, a, b⟩; exact ⟨k, a, by cases k <;> simpa using b⟩
      · rintro ⟨k, a, b⟩; exact ⟨k, a, by cases k <;> simpa using b⟩
    show t1 σ H _
    rw [e]; exact this
def SW (Γ : Ctx) (L : LC) (e : Expr) (m : Env → Sto → Out Bool) : Prop :=
  ∃ t : TT, (∀ X, Good Γ L X → PW X e t) ∧ ∀ σ H env st S φ Q, EI Γ.K S φ H σ env → SI Γ.K S φ H st → FinB Γ.K S φ H Q (m env st) → t σ H Q
theorem SW.st {m : Env → Sto → Out Bool} (h : SW Γ L e m) : ST Γ L e m := let ⟨t, p, q⟩ := h; ⟨t, fun X g => (p X g).pt, q⟩
theorem sw_bop1 {and : Bool} {ca : Ex} {cf gs} {pos : Pos} (h : ST Γ L a fun env s => (ev cf gs true ca env s).bind fun d s => truthS s d) :
    SW Γ L (.BoolOp (bopOf and) [a] pos) fun env s => (evB cf gs true and (.c ca .nil) env s).bind fun d s => truthS s d := by
  obtain ⟨t, p, q⟩ := h
  refine ⟨t, fun X g => ?_, fun σ H env st S φ Q E I f => q σ H env st S φ Q E I (by unfold evB at f; exact f)⟩
  cases and with
  | true => exact pw_and1 (p X g)
  | false => exact pw_or1 (p X g)
theorem sw_bopc {and : Bool} {ca cb : Ex} {cs : Exs} {rest : List Expr} {cf gs} {pos : Pos} (h : ST Γ L a fun env s => (ev cf gs true ca env s).bind fun d s => truthS s d)
    (h2 : SW Γ L (.BoolOp (bopOf and) (b :: rest) pos) fun env s => (evB cf gs true and (.c cb cs) env s).bind fun d s => truthS s d) :
    SW Γ L (.BoolOp (bopOf and) (a :: b :: rest) pos) fun env s => (evB cf gs true and (.c ca (.c cb cs)) env s).bind fun d s => truthS s d := by
  obtain ⟨t1, p1, q1⟩ := h
  obtain ⟨t2, p2, q2⟩ := h2
  have sem : ∀ (σ : L2.St) (H : Hp) (env : Env) (st : Sto) (S : Addr → Prop) (φ : List Addr) (Q : Bool → Hp → Prop), EI Γ.K S φ H σ env → SI Γ.K S φ H st → FinB Γ.K S φ H Q ((evB cf gs true and (.c ca (.c cb cs)) env st).bind fun d s => truthS s d) →
      t1 σ H fun k H1 => if k = and then t2 σ H1 Q else Q k H1 := by
    intro σ H env st S φ Q E I f
    refine q1 σ H env st S φ _ E I ?_
    unfold evB at f
    cases e1 : ev cf gs true ca env st with
    | err => rw [e1] at f; exact False.elim f
    | ok d1 s1 =>
      simp only [e1, Out.bind] at f ⊢
      cases e2 : truthS s1 d1 with
      | err => rw [e2] at f; exact False.elim f
      | ok k s2 =>
        obtain ⟨ek, rfl⟩ := lift_ok e2
        simp only [e2] at f
        intro H1 S1 φ1 x1 I1
        by_cases hk : k = and
        · rw [if_pos hk] at f ⊢
          exact q2 σ H1 env s2 S1 φ1 Q (E.mono x1 I) I1 (FinB.stp x1 f)
        · rw [if_neg hk] at f ⊢
          have f' : FinB Γ.K S φ H Q (truthS s2 d1) := f
          rw [e2] at f'
          exact f' H1 S1 φ1 x1 I1
  cases and with
  | true =>
    refine ⟨tAnd t1 t2, fun X g => pw_and (p1 X g) (p2 X g), fun σ H env st S φ Q E I f => ?_⟩
    have := sem σ H env st S φ Q E I f
    have e : (fun c H1 => if c = true then t2 σ H1 Q else Q false H1) = (fun k H1 => if k = true then t2 σ H1 Q else Q k H1) := by
      funext c H1; cases c <;> rfl
    show t1 σ H _
    rw [e]; exact this
  | false =>
    refine ⟨tOr t1 t2, fun X g => pw_or (p1 X g) (p2 X g), fun σ H env st S φ Q E I f => ?_⟩
    have := sem σ H env st S φ Q E I f
    have e : (fun c H1 => if c = true then Q true H1 else t2 σ H1 Q) = (fun k H1 => if k = false then t2 σ H1 Q else Q k H1) := by
      funext c H1; cases c <;> rfl
    show t1 σ H _
    rw [e]; exact this

/-! ### subscripts -/
theorem notSlice_of {m : MC} {c : Ex} {sc : Scope} (h : mE m c sc e = true) : PlainIx e := by
  intro ov iv
  cases e with
  | Slice l u s p =>
    exfalso
    cases c with
    | fz f => unfold mE at h; cases f <;> simp [mF] at h
    | alloc f => unfold mE at h; cases f <;> simp [mF] at h
    | _ => simp [mE] at h
  | _ => rfl
theorem se_idx {ca cb : Ex} {cf gs} {pos : Pos} (hs : PlainIx b) (h1 : SE Γ L true a (ev cf gs true ca)) (h2 : SE Γ L true b (ev cf gs true cb)) : SE Γ L o (.Subscript a b pos) (ev cf gs o (.idx ca cb)) := by
  obtain ⟨t1, p1, q1⟩ := h1
  obtain ⟨t2, p2, q2⟩ := h2
  refine ⟨tOp (rIx Γ.K) t1 t2, fun X g => by rw [← g.K]; exact pe_ix ix_seq (p1 X g) (p2 X g) hs, fun σ H env st S φ Q E I f => ?_⟩
  unfold ev at f
  obtain ⟨d1, s1, e1, f⟩ := f.bind
  obtain ⟨d2, s2, e2, f⟩ := f.bind
  obtain ⟨d, ed, f⟩ := f.lift
  refine SE.use q1 E I e1 fun v H1 S1 φ1 x1 E1 I1 r1 => ?_
  refine SE.use q2 E1 I1 e2 fun w H2 S2 φ2 x2 E2 I2 r2 => ?_
  exact is_idx S2 φ2 H2 v w _ _ d Q ((r1.mono x2 I1).rd I2) r2.rd0 ed fun u r3 => f u H2 S2 φ2 (x1.trans x2) I2 (.inl r3)
theorem so_none {cf gs} : SO' Γ L none (evO cf gs .n) :=
  ⟨tNoPart, fun X _ => po_none, fun σ H env st S φ Q E I f => by unfold evO at f; exact f H S φ .refl I⟩
theorem so_some {ca : Ex} {cf gs} (h : SE Γ L true a (ev cf gs true ca)) : SO' Γ L (some a) (evO cf gs (.s ca)) := by
  obtain ⟨t1, p1, q1⟩ := h
  refine ⟨tPart t1, fun X g => po_some (p1 X g), fun σ H env st S φ Q E I f => ?_⟩
  unfold evO at f
  obtain ⟨d1, s1, e1, f⟩ := f.bind
  refine SE.use q1 E I e1 fun v H1 S1 φ1 x1 E1 I1 r1 => ?_
  split at f
  · exact ⟨_, r1.rd0.int, f H1 S1 φ1 x1 I1⟩
  · exact f.elim
theorem se_slc {ca : Ex} {cl ch : OEx} {lo hi : Option Expr} {cf gs} {p2 pos : Pos} (h1 : SE Γ L true a (ev cf gs true ca)) (h2 : SO' Γ L lo (evO cf gs cl)) (h3 : SO' Γ L hi (evO cf gs ch)) :
    SE Γ L o (.Subscript a (.Slice lo hi none p2) pos) (ev cf gs o (.slc ca cl ch)) := by
  obtain ⟨t1, p1, q1⟩ := h1
  obtain ⟨t2, p2', q2⟩ := h2
  obtain ⟨t3, p3, q3⟩ := h3
  refine ⟨tSl (rSl Γ.K) t1 t2 t3, fun X g => by rw [← g.K]; exact pe_slice (sl_list.or sl_tupA) (p1 X g) (p2' X g) (p3 X g), fun σ H env st S φ Q E I f => ?_⟩
  unfold ev at f
  obtain ⟨d1, s1, e1, f⟩ := f.bind
  obtain ⟨l, s2, e2, f⟩ := f.bind
  obtain ⟨u, s3, e3, f⟩ := f.bind
  obtain ⟨d, ed, f⟩ := f.lift
  refine SE.use q1 E I e1 fun v H1 S1 φ1 x1 E1 I1 r1 => ?_
  refine SB.use q2 E1 I1 e2 fun H2 S2 φ2 x2 E2 I2 => ?_
  refine SB.use q3 E2 I2 e3 fun H3 S3 φ3 x3 E3 I3 => ?_
  exact ss_slc S3 φ3 H3 s3 v _ d l u Q I3 ((r1.mono (x2.trans x3) I1).rd I3) ed fun w H4 S4 x4 I4 r4 => f w H4 S4 φ3 (((x1.trans x2).trans x3).trans x4) I4 (.inl r4)
theorem se_rev {ca : Ex} {k : Nat} {p1 p2 p3 pos : Pos} {cf gs} (h1 : SE Γ L true a (ev cf gs true ca)) : SE Γ L o (.Subscript a (.Slice none none (some (.UnaryOp .USub (.Constant (.int 1) k p1) p2)) p3) pos) (ev cf gs o (.rev ca)) := by
  obtain ⟨t1, p1, q1⟩ := h1
  refine ⟨tRevL Γ.K t1, fun X g => by rw [← g.K]; exact pe_revL (p1 X g), fun σ H env st S φ Q E I f => ?_⟩
  unfold ev at f
  obtain ⟨d1, s1, e1, f⟩ := f.bind
  obtain ⟨d, ed, f⟩ := f.lift
  refine SE.use q1 E I e1 fun v H1 S1 φ1 x1 E1 I1 r1 => ?_
  unfold revD at ed
  split at ed
  · rename_i ds he
    cases ed
    have := r1.rd I1
    rw [he] at this
    obtain ⟨a, vs, rfl, h1, r⟩ := this.lst
    exact ⟨a, vs, rfl, .inl (.inl h1), fun p hp => f _ _ _ _ (x1.trans (Stp.alloc hp)) (I1.alloc hp) (.inl (rep_lst I1 hp r.reverse))⟩
  · cases ed
end
end PV
set_option maxRecDepth 100000
set_option maxHeartbeats 4000000
/-! Calls, new lists, iterators, targets. -/
namespace PV
open PySem PySem.Spec PyProof.Rows L2
section
variable {Γ : Ctx} {L : LC} {o : Bool} {e a b : Expr}
/-! ### built-ins -/
theorem pd_deref {K : PySem.W.Frag} {S : Addr → Prop} {φ : List Addr} {H : Hp} {st : Sto} (I : SI K S φ H st) : ∀ {vs : List V} {ds : List D}, Paired (RepM o K S φ H) vs ds → Paired (RepD K S φ H) vs (ds.map (deref st))
  | _, _, .nil => .nil
  | _, _, .cons a b => .cons (a.rd I) (pd_deref I b)
theorem star_plain {e : Expr} {es : List Expr} {env : PySem.Env} {pos : Pos} (h : ∀ x ∈ es, ∀ env r, starEach (x :: r) env = (false, eval x env) :: starEach r env) : (backTo pos (starEach es env)).any (·.1) = false := by
  induction es with
  | nil => rfl
  | cons x r ih =>
    rw [h x List.mem_cons_self]
    have := ih fun y hy => h y (List.mem_cons_of_mem _ hy)
    show (false || (backTo pos (starEach r env)).any (·.1)) = false
    rw [this]; rfl
theorem stars_of {m : MC} {sc : Scope} : ∀ {cs : Exs} {es : List Expr}, mEs m cs sc es = true → ∀ x ∈ es, ∀ env r, starEach (x :: r) env = (false, eval x env) :: starEach r env
  | .nil, es, h, x, hx => by
    unfold mEs at h
    split at h
    · simp at hx
    · cases h
  | .c c cs, es, h, x, hx => by
    unfold mEs at h
    split at h
    · rename_i y ys
      simp only [Bool.and_eq_true] at h
      rcases List.mem_cons.mp hx with q | q
      · subst q; exact fun env r => star_of h.1
      · exact stars_of h.2 x q
    · cases h
theorem Blt.pe {X : Cx} {bt : Blt} {x : Str} {r : List V → Hp → VK → Prop} {p pos : Pos} {es : List Expr} {t : TA} (hx : x = Str.ofString bt.name) (hc : CallR X bt.val r) (hg : Gl X x) (hm : X.mg x = none) (ha : PA X (e :: es) t) (hn : x ≠ "__name__") (hdb : (x == ("__debug__" : Str)) = false)
    (he : starEach (e :: es) X.env = (false, eval e X.env) :: starEach es X.env) (hpl : (backTo pos (starEach es X.env)).any (·.1) = false) : PE X (.Call (.Name x p) (e :: es) [] pos) (tCB r t) := by
  have hv : bootBuiltins x = some bt.val := by rw [hx]; exact bt.boot
  cases bt with
  | int => exact pe_callTy hc hg hm hv ha hn hdb he hpl
  | tup => exact pe_callTy hc hg hm hv ha hn hdb he hpl
  | _ => exact pe_callB hc hg hm hv ha hn hdb he hpl
theorem se_blt (Γok : CtxOk Γ) {bt : Blt} {cs : Exs} {x : Str} {p pos : Pos} {es : List Expr} {cf gs} (hx : x = Str.ofString bt.name) (hf : x ∈ Γ.m.fr) (hg : glB L.sc x = true) (hk : okN x = true)
    (hst : ∀ y ∈ a :: es, ∀ env r, starEach (y :: r) env = (false, eval y env) :: starEach r env) (h : SL Γ L true (a :: es) (evL cf gs true cs)) : SE Γ L o (.Call (.Name x p) (a :: es) [] pos) (ev cf gs o (.blt bt cs)) := by
  obtain ⟨t, p1, q1⟩ := h
  obtain ⟨r, hr, hs⟩ := blt_rule bt Γ.K
  obtain ⟨n1, n2, n3⟩ := okN_of hk
  refine ⟨tCB r t, fun X g => Blt.pe hx (hr X g.K g.rm) (g.gl hg) (by rw [g.mg]; exact Γok.fr x hf) (p1 X g) n3 n1 (hst a List.mem_cons_self _ _) (star_plain (e := a) fun y hy => hst y (List.mem_cons_of_mem _ hy)), fun σ H env st S φ Q E I f => ?_⟩
  unfold ev at f
  obtain ⟨ds, s1, e1, f⟩ := f.bind
  obtain ⟨d, ed, f⟩ := f.lift
  refine SLL.use q1 E I e1 fun vs H1 S1 φ1 x1 E1 I1 r1 => ?_
  exact hs S1 φ1 H1 s1 vs _ d Q I1 (pd_deref I1 r1) ed fun v H2 S2 x2 I2 r2 => f v H2 S2 φ1 (x1.trans x2) I2 (.inl r2)
theorem se_isi (Γok : CtxOk Γ) {ca : Ex} {ty : Ty} {z : Str} {p pz pos : Pos} {cf gs} (hf : ("isinstance" : Str) ∈ Γ.m.fr) (hg : glB L.sc "isinstance" = true) (hz : z = Str.ofString ty.name) (hfz : z ∈ Γ.m.fr) (hgz : glB L.sc z = true) (hkz : okN z = true)
    (hst : ∀ env r, starEach (a :: r) env = (false, eval a env) :: starEach r env) (h : SE Γ L true a (ev cf gs true ca)) : SE Γ L o (.Call (.Name ("isinstance" : Str) p) [a, .Name z pz] [] pos) (ev cf gs o (.isi ca ty)) := by
  obtain ⟨t, p1, q1⟩ := h
  obtain ⟨n1, n2, n3⟩ := okN_of hkz
  refine ⟨tCB (rIsi Γ.K) (tCons t (tCons (tC (.ty ty.name)) tNil)), fun X g => ?_, fun σ H env st S φ Q E I f => ?_⟩
  · rw [← g.K]
    refine pe_callB call_isi (g.gl hg) (by rw [g.mg]; exact Γok.fr _ hf) (by decide +kernel) (pa_cons (p1 X g) (pa_cons (pe_bltn (g.gl hgz) (by rw [g.mg]; exact Γok.fr _ hfz) (by rw [hz]; exact ty.boot) (show RelV (.ty ty.name) (.type ty.name) from rfl) n3 n1) pa_nil) (hst _ _)) (by decide) (by decide) (hst _ _) rfl
  · unfold ev at f
    obtain ⟨d1, s1, e1, f1⟩ := f.bind
    obtain ⟨k, s2, ek, f2⟩ := f1.bind
    obtain ⟨ek, rfl⟩ := lift_ok ek
    refine SE.use q1 E I e1 fun v H1 S1 φ1 x1 E1 I1 r1 => ?_
    obtain ⟨n, hn, hk⟩ := isi_ok (r1.rd I1) ek
    exact ⟨v, .ty ty.name, .type n, .type ty.name, k, rfl, .ty _, hn, hk, f2 _ H1 S1 φ1 x1 I1 (.inl (.bl _))⟩

/-! ### calls of defs -/
mutual
theorem Rep.nolst {K : PySem.W.Frag} {S S' : Addr → Prop} {φ : List Addr} {H : Hp} (hs : ∀ a xs, S a → H a = some (.tup xs) → S' a) : ∀ {v : V} {d : D}, Rep K S φ H v d → nolst? d = true → Rep K S' φ H v d
  | _, _, .non, _ => .non
  | _, _, .bl b, _ => .bl b
  | _, _, .int i, _ => .int i
  | _, _, .str z, _ => .str z
  | _, _, .tup h r, p => .tup (by
      rcases h with ⟨q, h⟩ | h
      · exact .inl ⟨hs _ _ q h, h⟩
      · exact .inr h) (RepL.nolst hs r p)
  | _, _, .lst _ _ _, p => by cases p
  | _, _, .rol _ _, p => by cases p
  | _, _, .loc h, _ => .loc h
theorem RepL.nolst {K : PySem.W.Frag} {S S' : Addr → Prop} {φ : List Addr} {H : Hp} (hs : ∀ a xs, S a → H a = some (.tup xs) → S' a) : ∀ {vs : List V} {ds : List D}, RepL K S φ H vs ds → nolsts? ds = true → RepL K S' φ H vs ds
  | _, _, .nil, _ => .nil
  | _, _, .cons h1 h2, p => by
    have p' := Bool.and_eq_true_iff.mp (show (nolst? _ && nolsts? _) = true from p)
    exact .cons (Rep.nolst hs h1 p'.1) (RepL.nolst hs h2 p'.2)
end
theorem nolstS_get : ∀ {st : Sto} {n : Nat} {ds : List D}, nolstS? st = true → st[n]? = some (.lst ds) → nolsts? ds = true
  | .lst xs :: r, 0, ds, h, e => by
    have := Bool.and_eq_true_iff.mp (show (nolsts? xs && nolstS? r) = true from h)
    cases e; exact this.1
  | .lst xs :: r, n + 1, ds, h, e => nolstS_get (Bool.and_eq_true_iff.mp (show (nolsts? xs && nolstS? r) = true from h)).2 (by simpa using e)
/-- the lists of the frame's own among the arguments are stable while the callee runs -/
theorem lend {K : PySem.W.Frag} {S : Addr → Prop} {φ : List Addr} {H : Hp} : ∀ {vs : List V} {ds : List D}, Paired (RepM true K S φ H) vs ds → ∃ B : List Addr, (∀ a ∈ B, a ∉ φ ∧ ∃ xs, H a = some (.lst xs)) ∧ RepL K (fun a => S a ∨ a ∈ B) φ H vs ds
  | _, _, .nil => ⟨[], by simp, .nil⟩
  | _, _, .cons h t => by
    obtain ⟨B, hB, r⟩ := lend t
    rcases h with h | ⟨_, a, vs, ds, rfl, rfl, h1, h2, h3⟩
    · exact ⟨B, hB, .cons (h.tr (fun _ _ => rfl) (fun _ q => .inl q) ⟨[], by simp⟩) r⟩
    · refine ⟨a :: B, fun b hb => ?_, .cons (.lst (.inr List.mem_cons_self) h2 (h3.tr (fun _ _ => rfl) (fun _ q => .inl q) ⟨[], by simp⟩)) (r.tr (fun _ _ => rfl) (fun _ q => q.elim .inl fun z => .inr (List.mem_cons_of_mem _ z)) ⟨[], by simp⟩)⟩
      rcases List.mem_cons.mp hb with q | q
      · subst q; exact ⟨h1, _, h2⟩
      · exact hB b q
theorem SI.lend {K : PySem.W.Frag} {S : Addr → Prop} {φ : List Addr} {H : Hp} {st : Sto} (I : SI K S φ H st) {B : List Addr} (hB : ∀ a ∈ B, a ∉ φ ∧ ∃ xs, H a = some (.lst xs)) : SI K (fun a => S a ∨ a ∈ B) φ H st := by
  refine ⟨fun a h => ?_, fun a ha h => ?_, I.len, I.nd, fun n a ds e1 e2 => ?_⟩
  · rcases h with h | h
    · exact I.dom a h
    · obtain ⟨_, xs, e⟩ := hB a h; rw [e]; simp
  · rcases h with h | h
    · exact I.dis a ha h
    · exact (hB a h).1 ha
  · obtain ⟨vs, h1, h2⟩ := I.obj n a ds e1 e2
    exact ⟨vs, h1, h2.tr (fun _ _ => rfl) (fun _ q => .inl q) ⟨[], by simp⟩⟩
theorem sp_none {K : PySem.W.Frag} {cf : Nat → List D → Sto → Out D} {f : Nat} {vs : List V} {H : Hp} {Q : VK} {E : XK} {S : Addr → Prop} {φ : List Addr} {st : Sto} {ds : List D} (I : SI K S φ H st) (r : RepL K S φ H vs ds) (h : FinE K false S φ H Q (cf f ds st)) : spF K cf f vs H Q E := ⟨S, φ, st, ds, I, r, h⟩
theorem call_sem {K : PySem.W.Frag} {cf : Nat → List D → Sto → Out D} {f : Nat} {vs : List V} {H : Hp} {Q : VK} {E : XK} {S : Addr → Prop} {φ : List Addr} {st : Sto} {ds : List D} {bw : Bool} (I : SI K S φ H st) (r : Paired (RepM true K S φ H) vs ds) (hb : bw = false → RepL K S φ H vs ds)
    (h : FinE K o S φ H Q ((cf f ds st).bind fun d s => if bw = true then (if nolst? d = true ∧ nolstS? s = true then .ok d s else .err) else .ok d s)) : spF K cf f vs H Q E := by
  cases bw with
  | false =>
    refine ⟨S, φ, st, ds, I, hb rfl, ?_⟩
    cases e : cf f ds st with
    | err => rw [e] at h; exact False.elim h
    | ok d s => rw [e] at h; exact fun v H' S' φ' x I' r' => h v H' S' φ' x I' (.inl r'.val)
  | true =>
    obtain ⟨B, hB, r1⟩ := lend r
    refine ⟨_, φ, st, ds, I.lend hB, r1, ?_⟩
    cases e : cf f ds st with
    | err => rw [e] at h; exact False.elim h
    | ok d s =>
      rw [e] at h
      by_cases hn : nolst? d = true ∧ nolstS? s = true
      · have h' : FinE K o S φ H Q (.ok d s) := by
          have : (if true = true then (if nolst? d = true ∧ nolstS? s = true then Out.ok d s else .err) else .ok d s) = Out.ok d s := by rw [if_pos rfl, if_pos hn]
          exact this ▸ h
        intro v H' S' φ' x I' r'
        have hk : ∀ a ∈ B, ∃ xs, H' a = some (.lst xs) := fun a ha => by
          obtain ⟨h1, xs, h2⟩ := hB a ha
          exact ⟨xs, x.keep a _ h2 h1⟩
        have hs : ∀ a xs, S' a → H' a = some (.tup xs) → (S' a ∧ (a ∉ B ∨ S a)) := fun a xs q e => ⟨q, .inl fun z => by
          obtain ⟨ys, e2⟩ := hk a z
          rw [e] at e2; cases e2⟩
        refine h' v H' (fun a => S' a ∧ (a ∉ B ∨ S a)) φ' ⟨x.keep, x.some, fun a q => ⟨x.sub a (.inl q), .inr q⟩, fun a q => ?_, x.phi⟩ ⟨fun a q => I'.dom a q.1, fun a ha q => I'.dis a ha q.1, I'.len, I'.nd, fun n a ds e1 e2 => ?_⟩ (.inl (r'.val.nolst hs hn.1))
        · rcases x.new a q.1 with z | z
          · rcases z with z | z
            · exact .inl z
            · rcases q.2 with q | q
              · exact absurd z q
              · exact .inl q
          · exact .inr z
        · obtain ⟨ws, h1, h2⟩ := I'.obj n a ds e1 e2
          exact ⟨ws, h1, h2.nolst hs (nolstS_get hn.2 e2)⟩
      · have : FinE K o S φ H Q .err := by
          have e3 : (if true = true then (if nolst? d = true ∧ nolstS? s = true then Out.ok d s else .err) else .ok d s) = Out.err := by rw [if_pos rfl, if_neg hn]
          exact e3 ▸ h
        exact this.elim

/-- the arguments of a call -/
def SA (Γ : Ctx) (L : LC) (es : List Expr) (cs : Exs) (cf : Nat → List D → Sto → Out D) (gs : List D) : Prop :=
  ∃ t : TA, (∀ X, Good Γ L X → PA X es t) ∧ ∀ σ H env st S φ Q, EI Γ.K S φ H σ env → SI Γ.K S φ H st →
    (match evL cf gs true cs env st with
      | .ok ds st' => ∀ vs H' S' φ', Stp S φ H S' φ' H' → SI Γ.K S' φ' H' st' → Paired (RepM true Γ.K S' φ' H') vs ds → (borrows env cs = false → RepL Γ.K S' φ' H' vs ds) → Q vs H'
      | .err => False) → t σ H Q
theorem sa_nil {cf gs} : SA Γ L [] .nil cf gs :=
  ⟨tNil, fun X _ => pa_nil, fun σ H env st S φ Q E I f => by simp only [evL] at f; exact f [] H S φ .refl I .nil fun _ => .nil⟩
/-- a part whose value is one's own only where it is a name -/
def SE1 (Γ : Ctx) (L : LC) (e : Expr) (c : Ex) (cf : Nat → List D → Sto → Out D) (gs : List D) : Prop :=
  ∃ t : TE, (∀ X, Good Γ L X → PE X e t) ∧ ∀ σ H env st S φ Q, EI Γ.K S φ H σ env → SI Γ.K S φ H st →
    (match ev cf gs true c env st with
      | .ok d st' => ∀ v H' S' φ', Stp S φ H S' φ' H' → SI Γ.K S' φ' H' st' → RepM true Γ.K S' φ' H' v d → (isOwn env c = false → Rep Γ.K S' φ' H' v d) → Q v H'
      | .err => False) → t σ H Q
theorem sa_cons {c : Ex} {cs : Exs} {es : List Expr} {cf gs} (hs : ∀ env, starEach (e :: es) env = (false, eval e env) :: starEach es env) (h1 : SE1 Γ L e c cf gs) (h2 : SA Γ L es cs cf gs) : SA Γ L (e :: es) (.c c cs) cf gs := by
  obtain ⟨t1, p1, q1⟩ := h1
  obtain ⟨t2, p2, q2⟩ := h2
  refine ⟨tCons t1 t2, fun X g => pa_cons (p1 X g) (p2 X g) (hs _), fun σ H env st S φ Q E I f => ?_⟩
  refine q1 σ H env st S φ _ E I ?_
  unfold evL at f
  cases e1 : ev cf gs true c env st with
  | err => simp only [e1, Out.bind] at f
  | ok d s1 =>
    simp only [e1, Out.bind] at f ⊢
    intro v H1 S1 φ1 x1 I1 r1 w1
    refine q2 σ H1 env s1 S1 φ1 _ (E.mono x1 I) I1 ?_
    cases e2 : evL cf gs true cs env s1 with
    | err => simp only [e2] at f
    | ok ds s2 =>
      simp only [e2] at f ⊢
      intro vs H2 S2 φ2 x2 I2 r2 w2
      refine f _ H2 S2 φ2 (x1.trans x2) I2 (.cons (r1.mono x2 I1) r2) fun hb => ?_
      have hb' : (isOwn env c || borrows env cs) = false := hb
      rw [Bool.or_eq_false_iff] at hb'
      exact .cons ((w1 hb'.1).mono x2 I1) (w2 hb'.2)
theorem se_call (Γok : CtxOk Γ) {fi : Nat} {x : Str} {cs : Exs} {es : List Expr} {p pos : Pos} (hne : es ≠ []) (hf : Γ.m.fs[fi]? = some (x, es.length)) (hg : glB L.sc x = true) (hk : okN x = true)
    (hst : ∀ y ∈ es, ∀ env r, starEach (y :: r) env = (false, eval y env) :: starEach r env) (h : SA Γ L es cs Γ.cf Γ.gs) : SE Γ L o (.Call (.Name x p) es [] pos) (ev Γ.cf Γ.gs o (.call fi cs)) := by
  obtain ⟨t, p1, q1⟩ := h
  obtain ⟨fa, fd, ps, h1, h2, h3, h4⟩ := Γok.fn fi x _ hf
  obtain ⟨n1, n2, n3⟩ := okN_of hk
  refine ⟨tCall (spF Γ.K Γ.cf fi) [] E0 t, fun X g => ?_, fun σ H env st S φ Q E I f => ?_⟩
  · have F : FnOk X.prog X.w X.K X.mg X.base CX0 Γ.k fa fd ps (spF Γ.K Γ.cf fi) := by rw [g.prog, g.w, g.K, g.mg, g.base]; exact h4
    have pa := p1 X g
    have hm : X.mg x = some (.ref fa) := by rw [g.mg]; exact h1
    have hkp : PySem.W.keepIn X.K (.ref fa) = true := by rw [g.K]; exact h2
    have hb : Binds X.K fd ps [] := by rw [g.K]; exact h3
    cases es with
    | nil => exact absurd rfl hne
    | cons y ys => exact pe_call F g.room (g.gl hg) hm hkp hb .nil pass0 pa n1 (hst y List.mem_cons_self _ _) (star_plain (e := y) fun z hz => hst z (List.mem_cons_of_mem _ hz))
  · refine q1 σ H env st S φ _ E I ?_
    unfold ev at f
    cases e1 : evL Γ.cf Γ.gs true cs env st with
    | err => rw [e1] at f; exact f
    | ok ds s1 =>
      simp only [e1, Out.bind] at f ⊢
      intro vs H1 S1 φ1 x1 I1 r1 w1
      show spF Γ.K Γ.cf fi (vs ++ []) H1 Q E0
      rw [List.append_nil]
      exact call_sem (o := o) (bw := borrows env cs) I1 r1 w1 (FinE.stp x1 f)

theorem se_call0 (Γok : CtxOk Γ) {fi : Nat} {x : Str} {p pos : Pos} (hf : Γ.m.fs[fi]? = some (x, 0)) (hg : glB L.sc x = true) (hk : okN x = true) : SE Γ L o (.Call (.Name x p) [] [] pos) (ev Γ.cf Γ.gs o (.call fi .nil)) := by
  obtain ⟨fa, fd, ps, h1, h2, h3, h4⟩ := Γok.fn fi x _ hf
  obtain ⟨n1, n2, n3⟩ := okN_of hk
  refine ⟨tCall (spF Γ.K Γ.cf fi) [] E0 tNil, fun X g => ?_, fun σ H env st S φ Q E I f => ?_⟩
  · have F : FnOk X.prog X.w X.K X.mg X.base CX0 Γ.k fa fd ps (spF Γ.K Γ.cf fi) := by rw [g.prog, g.w, g.K, g.mg, g.base]; exact h4
    exact pe_call0 F g.room (g.gl hg) (by rw [g.mg]; exact h1) (by rw [g.K]; exact h2) (by rw [g.K]; exact h3) .nil pass0 n1
  · unfold ev evL at f
    exact call_sem (o := o) (E := E0) (bw := borrows env .nil) I .nil (fun _ => .nil) f

/-! ### new lists -/
theorem SI.more {K : PySem.W.Frag} {S : Addr → Prop} {φ : List Addr} {H : Hp} {st : Sto} {a : Addr} {vs : List V} {ds : List D} (I : SI K S φ H st) (h1 : ¬ S a) (h2 : a ∉ φ) (h3 : H a = some (.lst vs)) (r : RepL K S φ H vs ds) : SI K S (φ ++ [a]) H (st ++ [.lst ds]) := by
  refine ⟨I.dom, fun b hb => ?_, by simp [I.len], ?_, fun n b es e1 e2 => ?_⟩
  · rcases List.mem_append.mp hb with q | q
    · exact I.dis b q
    · have : b = a := by simpa using q
      rw [this]; exact h1
  · rw [List.nodup_append]
    exact ⟨I.nd, by simp, fun x hx y hy => by
      have : y = a := by simpa using hy
      rw [this]; intro q; rw [q] at hx; exact h2 hx⟩
  · by_cases hn : n < φ.length
    · rw [List.getElem?_append_left hn] at e1
      rw [List.getElem?_append_left (by rw [← I.len]; exact hn)] at e2
      obtain ⟨ws, q1, q2⟩ := I.obj n b es e1 e2
      exact ⟨ws, q1, q2.tr (fun _ _ => rfl) (fun _ q => q) ⟨[a], rfl⟩⟩
    · have hn' : n = φ.length := by
        have := (List.getElem?_eq_some_iff.mp e1).1
        simp at this; omega
      subst hn'
      simp at e1
      rw [I.len] at e2
      simp at e2
      subst e1 e2
      exact ⟨vs, h3, r.tr (fun _ _ => rfl) (fun _ q => q) ⟨[a], rfl⟩⟩
theorem SI.add {K : PySem.W.Frag} {S : Addr → Prop} {φ : List Addr} {H : Hp} {st : Sto} {a : Addr} (I : SI K S φ H st) (h2 : a ∉ φ) (h3 : H a ≠ none) : SI K (add S a) φ H st := by
  refine ⟨fun b q => ?_, fun b hb q => ?_, I.len, I.nd, fun n b es e1 e2 => ?_⟩
  · rcases q with q | q
    · exact I.dom b q
    · rw [q]; exact h3
  · rcases q with q | q
    · exact I.dis b hb q
    · exact h2 (q ▸ hb)
  · obtain ⟨ws, q1, q2⟩ := I.obj n b es e1 e2
    exact ⟨ws, q1, q2.tr (fun _ _ => rfl) (fun _ q => .inl q) ⟨[], by simp⟩⟩
theorem Stp.addS {S S' : Addr → Prop} {φ φ' : List Addr} {H H' : Hp} {a : Addr} (x : Stp S φ H S' φ' H') (h : H a = none) : Stp S φ H (PV.add S' a) φ' H' :=
  ⟨x.keep, x.some, fun b q => .inl (x.sub b q), fun b q => by
    rcases q with q | q
    · exact x.new b q
    · rw [q]; exact .inr h, x.phi⟩
theorem Stp.addP {S S' : Addr → Prop} {φ φ' : List Addr} {H H' : Hp} {a : Addr} (x : Stp S φ H S' φ' H') (h : H a = none) : Stp S φ H S' (φ' ++ [a]) H' :=
  ⟨x.keep, x.some, x.sub, x.new, let ⟨ψ, e, q⟩ := x.phi; ⟨ψ ++ [a], by rw [e, List.append_assoc], fun b hb => by
    rcases List.mem_append.mp hb with z | z
    · exact q b z
    · have : b = a := by simpa using z
      rw [this]; exact h⟩⟩
theorem se_fz {cf gs} {c : Fx} (h : SF Γ L e (evF cf gs c)) : SE Γ L o e (ev cf gs o (.fz c)) := by
  obtain ⟨t, p, q⟩ := h
  refine ⟨t, p, fun σ H env st S φ Q E I f => q σ H env st S φ Q E I ?_⟩
  unfold ev at f
  obtain ⟨ds, s1, e1, f⟩ := f.bind
  rw [e1]
  exact fun a vs H' S' φ' x I' h1 h2 h3 h4 r => f _ H' (add S' a) φ' (x.addS h1) (I'.add h3 (by rw [h4]; simp)) (.inl (.lst (.inr rfl) h4 (r.tr (fun _ _ => rfl) (fun _ q => .inl q) ⟨[], by simp⟩)))
theorem se_alloc {cf gs} {c : Fx} (h : SF Γ L e (evF cf gs c)) : SE Γ L o e (ev cf gs o (.alloc c)) := by
  obtain ⟨t, p, q⟩ := h
  refine ⟨t, p, fun σ H env st S φ Q E I f => q σ H env st S φ Q E I ?_⟩
  unfold ev at f
  obtain ⟨ds, s1, e1, f⟩ := f.bind
  rw [e1]
  exact fun a vs H' S' φ' x I' h1 h2 h3 h4 r => f _ H' S' (φ' ++ [a]) (x.addP h1) (I'.more h2 h3 h4 r) (.inl (.loc (by rw [← I'.len]; simp)))
theorem sf_dsp {es : Exs} {xs : List Expr} {pos : Pos} {cf gs} (hz : es.len ≤ 1000) (h : SL Γ L false xs (evL cf gs false es)) : SF Γ L (.List xs pos) (evF cf gs (.dsp es)) := by
  obtain ⟨t, p, q⟩ := h
  refine ⟨tLst t, fun X g => pe_lst (p X g), fun σ H env st S φ Q E I f => ?_⟩
  unfold evF at f
  cases e1 : evL cf gs false es env st with
  | err => rw [e1] at f; exact False.elim f
  | ok ds s1 =>
    rw [e1] at f
    refine SLL.use q E I e1 fun vs H1 S1 φ1 x1 E1 I1 r1 => ?_
    have r := reps_of r1
    refine ⟨by rw [line_eq, r.length, evL_len e1]; show _ ≤ 16777216; omega, fun a ha => ?_⟩
    obtain ⟨n1, n2⟩ := I1.fresh ha
    exact f a vs _ S1 φ1 (x1.trans (Stp.alloc0 ha)) (I1.alloc0 ha) (x1.free ha) n1 n2 upd_same (r.mono (Stp.alloc0 ha) I1)
theorem sf_lof (Γok : CtxOk Γ) {ca : Ex} {x : Str} {p pos : Pos} {cf gs} (hx : x = ("list" : Str)) (hf : x ∈ Γ.m.fr) (hg : glB L.sc x = true) (hk : okN x = true) (hst : ∀ env r, starEach (a :: r) env = (false, eval a env) :: starEach r env)
    (h : SE Γ L true a (ev cf gs true ca)) : SF Γ L (.Call (.Name x p) [a] [] pos) (evF cf gs (.lof ca)) := by
  obtain ⟨t, p1, q1⟩ := h
  obtain ⟨n1, n2, n3⟩ := okN_of hk
  refine ⟨tCB (fun xs H Q => ∃ p ys, xs = [.ref p] ∧ (SqL Γ.K H p ys ∨ SqT Γ.K H p ys) ∧ ∀ l, H l = none → Q (.ref l) (upd H l (.lst ys))) (tCons t tNil), fun X g => ?_, fun σ H env st S φ Q E I f => ?_⟩
  · rw [← g.K]
    exact pe_callTy call_list_of (g.gl hg) (by rw [g.mg]; exact Γok.fr _ hf) (by rw [hx]; decide +kernel) (pa_cons (p1 X g) pa_nil (hst _ _)) n3 n1 (hst _ _) rfl
  · unfold evF at f
    obtain ⟨d1, s1, e1, f⟩ := f.bind
    refine SE.use q1 E I e1 fun v H1 S1 φ1 x1 E1 I1 r1 => ?_
    have rd := r1.rd I1
    have fin : ∀ {ys : List V} {ds : List D}, RepL Γ.K S1 φ1 H1 ys ds → FinF Γ.K S φ H Q (.ok ds s1) → ∀ l, H1 l = none → Q (.ref l) (upd H1 l (.lst ys)) := fun {ys ds} r f l hl => by
      obtain ⟨n1, n2⟩ := I1.fresh hl
      exact f l ys _ S1 φ1 (x1.trans (Stp.alloc0 hl)) (I1.alloc0 hl) (x1.free hl) n1 n2 upd_same (r.mono (Stp.alloc0 hl) I1)
    split at f
    · rename_i ds he
      rw [he] at rd
      obtain ⟨a, ys, rfl, h1, r⟩ := rd.lst
      exact ⟨a, ys, rfl, .inl (.inl (.inl h1)), fin r f⟩
    · rename_i ds he
      rw [he] at rd
      obtain ⟨a, ys, rfl, h1, r, _⟩ := rd.tup
      exact ⟨a, ys, rfl, .inr h1, fin r f⟩
    · exact False.elim f

/-! ### targets -/
theorem set_get {α : Type} {l : List (Option α)} {i j : Nat} {x y : α} (h : (l.set i (some x))[j]? = some (some y)) : (i = j ∧ y = x ∧ i < l.length) ∨ (i ≠ j ∧ l[j]? = some (some y)) := by
  by_cases e : i = j
  · subst e
    by_cases hi : i < l.length
    · rw [List.getElem?_set_self hi] at h; cases h; exact .inl ⟨rfl, rfl, hi⟩
    · rw [List.getElem?_eq_none (by simpa using hi)] at h; cases h
  · rw [List.getElem?_set_ne e] at h; exact .inr ⟨e, h⟩
theorem EI.setV {K : PySem.W.Frag} {S : Addr → Prop} {φ : List Addr} {H : Hp} {σ : L2.St} {env : Env} {i : Nat} {v : V} {d : D} (E : EI K S φ H σ env) (r : Rep K S φ H v d) : EI K S φ H (σ.set i (some v)) (env.set i (some (.val d))) := by
  refine ⟨by simp [E.len], fun j d' h => ?_, fun j ds h => ?_, fun j l ds es a h1 h2 h3 h4 => ?_⟩
  · rcases set_get h with ⟨rfl, e, hi⟩ | ⟨n, h⟩
    · cases e; exact ⟨v, List.getElem?_set_self (by rw [← E.len]; exact hi), r⟩
    · obtain ⟨w, e, q⟩ := E.val j d' h
      exact ⟨w, by rw [List.getElem?_set_ne n]; exact e, q⟩
  · rcases set_get h with ⟨_, e, _⟩ | ⟨n, h⟩
    · cases e
    · obtain ⟨a, vs, e, q⟩ := E.own j ds h
      exact ⟨a, vs, by rw [List.getElem?_set_ne n]; exact e, q⟩
  · rcases set_get h1 with ⟨_, e, _⟩ | ⟨n, h1⟩
    · cases e
    · rcases set_get h2 with ⟨_, e, _⟩ | ⟨n2, h2⟩
      · cases e
      · rw [List.getElem?_set_ne n] at h3
        rw [List.getElem?_set_ne n2] at h4
        exact E.inj j l ds es a h1 h2 h3 h4
theorem wipe_set {σ : L2.St} {i : Nat} {x : Option V} : ∀ {vs : List Nat}, i ∈ vs → wipe (σ.set i x) vs = wipe σ vs
  | v :: vs, h => by
    unfold wipe
    by_cases hv : i ∈ vs
    · rw [wipe_set hv]
    · have e : i = v := by
        rcases List.mem_cons.mp h with q | q
        · exact q
        · exact absurd q hv
      subst e
      have : ∀ {ws : List Nat}, i ∉ ws → wipe (σ.set i x) ws = (wipe σ ws).set i x := by
        intro ws
        induction ws with
        | nil => intro _; rfl
        | cons w ws ih =>
          intro hn
          unfold wipe
          rw [ih fun q => hn (List.mem_cons_of_mem _ q), List.set_comm _ _ (fun q => hn (by rw [q]; exact List.mem_cons_self))]
      rw [this hv, List.set_set]
theorem kept_set {env : Env} {σ : L2.St} {i : Nat} {d : D} {v : V} : Kept env σ (env.set i (some (.val d))) (σ.set i (some v)) := fun j ds h => by
  rcases set_get h with ⟨_, e, _⟩ | ⟨n, h⟩
  · cases e
  · exact ⟨h, List.getElem?_set_ne n⟩
mutual
theorem sg_of (Γok : CtxOk Γ) : ∀ {c : Tg} {tg : Expr}, mT Γ.m L.fb L.sc c tg = true → SG Γ L tg c
  | .nm i, tg, h => by
    unfold mT at h
    split at h
    · rename_i x pos
      simp only [Bool.and_eq_true, Bool.or_eq_true, decide_eq_true_eq] at h
      obtain ⟨⟨h1, h2⟩, h3⟩ := h
      refine ⟨gName i, fun X g => pg_name (by rw [g.N]; exact Γok.nd) (by rw [g.N]; exact h1) (by rw [g.sc]; exact loc_of h2) (by
        rw [g.fn, g.sc]; exact h3), fun v d σ H env env' S φ st Q E I r e q => ?_⟩
      cases e
      exact q _ ⟨fun vs hv => wipe_set (by simpa [tgIn] using hv), kept_set⟩ (E.setV r)
    · cases h
  | .tp ts, tg, h => by
    unfold mT at h
    split at h
    · rename_i xs k pos
      obtain ⟨g, p, hl, hn, hb, q⟩ := sgs_of Γok h
      refine ⟨gTup Γ.K xs.length g, fun X gd => by
        rw [← gd.K]
        exact pg_tup gd.calm (p X gd) (hl X.env) (hn X.env), fun v d σ H env env' S φ st Q E I r e z => ?_⟩
      cases d with
      | tup ds =>
        cases r with
        | tup h r =>
          have e' : bindTs ts ds env = some env' := e
          exact ⟨_, _, rfl, h.sq, by rw [r.length]; exact hb ds env env' e', q _ ds σ H env env' S φ st Q E I r e' z⟩
      | _ => cases e
    · cases h
theorem sgs_of (Γok : CtxOk Γ) : ∀ {cs : Tgs} {tgs : List Expr}, mTs Γ.m L.fb L.sc cs tgs = true → ∃ g : TGs, (∀ X, Good Γ L X → PGs X tgs g) ∧ (∀ env, (assignEach tgs env).length = tgs.length) ∧ (∀ env, (assignEach tgs env).findIdx? (·.1) = none) ∧ (∀ ds env env', bindTs cs ds env = some env' → ds.length = tgs.length) ∧
    ∀ vs ds σ H env env' S φ st (Q : L2.St → Hp → Prop), EI Γ.K S φ H σ env → SI Γ.K S φ H st → RepL Γ.K S φ H vs ds → bindTs cs ds env = some env' →
      (∀ σ', ((∀ ws, tgsIn ws cs = true → wipe σ' ws = wipe σ ws) ∧ Kept env σ env' σ') → EI Γ.K S φ H σ' env' → Q σ' H) → g vs σ H Q
  | .nil, tgs, h => by
    unfold mTs at h
    split at h
    · refine ⟨gNil, fun X g => pgs_nil, fun _ => rfl, fun _ => rfl, (fun ds env env' e => by
        cases ds with
        | nil => rfl
        | cons d ds => cases e), fun vs ds σ H env env' S φ st Q E I r e q => ?_⟩
      cases ds with
      | nil => cases r; cases e; exact ⟨rfl, q σ ⟨fun _ _ => rfl, fun _ _ h => ⟨h, rfl⟩⟩ E⟩
      | cons d ds => cases e
    · cases h
  | .c t ts, tgs, h => by
    unfold mTs at h
    split at h
    · rename_i x xs
      simp only [Bool.and_eq_true] at h
      obtain ⟨g1, p1, q1⟩ := sg_of Γok h.1
      obtain ⟨g2, p2, hl, hn, hb, q2⟩ := sgs_of Γok h.2
      have hs : ∀ env, assignEach (x :: xs) env = (false, assign x env) :: assignEach xs env := fun env => by
        cases x with
        | Starred y p =>
          exfalso
          have h1 := h.1
          cases t <;> simp [mT] at h1
        | _ => rfl
      refine ⟨gCons g1 g2, fun X g => pgs_cons (p1 X g) (p2 X g) (by rw [hs]; rfl), fun env => by rw [hs]; simp [hl env], fun env => by rw [hs, List.findIdx?_cons]; simp [hn env], (fun ds env env' e => by
        cases ds with
        | nil => cases e
        | cons d ds =>
          have e' : (match bindT t d env with
            | some env' => bindTs ts ds env'
            | none => none) = some env' := e
          cases eb : bindT t d env with
          | none => rw [eb] at e'; cases e'
          | some env1 => rw [eb] at e'; simp [hb ds env1 env' e']), fun vs ds σ H env env' S φ st Q E I r e q => ?_⟩
      cases ds with
      | nil => cases e
      | cons d ds =>
        cases r with
        | cons r1 r2 =>
          have e' : (match bindT t d env with
            | some env' => bindTs ts ds env'
            | none => none) = some env' := e
          cases eb : bindT t d env with
          | none => rw [eb] at e'; cases e'
          | some env1 =>
            rw [eb] at e'
            refine ⟨_, _, rfl, q1 _ d σ H env env1 S φ st _ E I r1 eb fun σ1 w1 E1 => ?_⟩
            refine q2 _ ds σ1 H env1 env' S φ st Q E1 I r2 e' fun σ2 w2 E2 => q σ2 ⟨fun ws hw => ?_, w1.2.trans w2.2⟩ E2
            have := Bool.and_eq_true_iff.mp (show (tgIn ws t && tgsIn ws ts) = true from hw)
            rw [w2.1 ws this.2, w1.1 ws this.1]
    · cases h
end
end
end PV
set_option maxRecDepth 100000
set_option maxHeartbeats 4000000
/-! Iterators, comprehensions. -/
namespace PV
open PySem PySem.Spec PyProof.Rows L2
section
variable {K : PySem.W.Frag} {o : Bool} {S : Addr → Prop} {φ : List Addr} {H : Hp} {ds es : List D} {vs ws : List V}
/-! ### iterators -/
theorem jok_list {a : Addr} (ho : a ∉ φ) (hs : o = false → S a) (h : H a = some (.lst vs)) (r : RepL K S φ H vs ds) : JOk K o S φ H (Itl K a) ds := by
  refine ⟨[a], fun b hb => ?_, fun S2 φ2 H2 hw hk sub hφ => ?_⟩
  · have : b = a := by simpa using hb
    subst this
    exact ⟨by rw [h]; simp, ho, hs⟩
  · have e2 : H2 a = some (.lst vs) := (hw a (by simp)).trans h
    have W := walk_list (K := K) (a := a) (xs := vs)
    have q : SqL K H2 a vs := .inl (.inl e2)
    rw [← r.length]
    refine ⟨fun i hi => W.goes i H2 hi q, W.stops H2 q, fun i d x H3 e y st2 I2 => ?_⟩
    have hi : i < vs.length := by rw [r.length]; exact (List.getElem?_eq_some_iff.mp e).1
    obtain ⟨rfl, ex⟩ := W.yields i H2 x H3 hi q y
    obtain ⟨v, ev, rv⟩ := r.get e
    rw [ex] at ev; cases ev
    exact ⟨S2, .refl, I2, rv.tr hk sub hφ⟩
theorem jok_tup {a : Addr} (h : Tp K S H a vs) (r : RepL K S φ H vs ds) : JOk K o S φ H (Itt K a) ds := by
  refine ⟨[], fun b hb => by simp at hb, fun S2 φ2 H2 hw hk sub hφ => ?_⟩
  have W := walk_tup (K := K) (a := a) (xs := vs)
  have q : SqT K H2 a vs := by
    rcases h with ⟨h1, h2⟩ | h
    · exact .inl (.inl ((hk a h1).trans h2))
    · exact .inr h
  rw [← r.length]
  refine ⟨fun i hi => W.goes i H2 hi q, W.stops H2 q, fun i d x H3 e y st2 I2 => ?_⟩
  have hi : i < vs.length := by rw [r.length]; exact (List.getElem?_eq_some_iff.mp e).1
  obtain ⟨rfl, ex⟩ := W.yields i H2 x H3 hi q y
  obtain ⟨v, ev, rv⟩ := r.get e
  rw [ex] at ev; cases ev
  exact ⟨S2, .refl, I2, rv.tr hk sub hφ⟩
theorem jok_str {z : Str} : JOk K o S φ H (Its z) (z.cps.toList.map fun c => .str ⟨#[c]⟩) := by
  refine ⟨[], fun b hb => by simp at hb, fun S2 φ2 H2 hw hk sub hφ => ?_⟩
  have W := walk_str (z := z)
  have el : (z.cps.toList.map fun c => D.str ⟨#[c]⟩).length = z.cps.size := by simp
  rw [el]
  refine ⟨fun i hi => W.goes i H2 hi trivial, W.stops H2 trivial, fun i d x H3 e y st2 I2 => ?_⟩
  have hi : i < z.cps.size := by rw [← el]; exact (List.getElem?_eq_some_iff.mp e).1
  obtain ⟨rfl, c, ec, rfl⟩ := W.yields i H2 x H3 hi trivial y
  rw [List.getElem?_map, Array.getElem?_toList, ec] at e
  cases e
  exact ⟨S2, .refl, I2, .str _⟩
theorem jok_range {lo : Int} {n : Nat} : JOk K o S φ H (Itr lo n) (rangeL lo 1 n) := by
  refine ⟨[], fun b hb => by simp at hb, fun S2 φ2 H2 hw hk sub hφ => ?_⟩
  have W := walk_range (lo := lo) (n := n)
  have el : (rangeL lo 1 n).length = n := by simp [rangeL]
  rw [el]
  refine ⟨fun i hi => W.goes i H2 hi trivial, W.stops H2 trivial, fun i d x H3 e y st2 I2 => ?_⟩
  have hi : i < n := by rw [← el]; exact (List.getElem?_eq_some_iff.mp e).1
  obtain ⟨rfl, rfl⟩ := W.yields i H2 x H3 hi trivial y
  unfold rangeL at e
  rw [List.getElem?_map, List.getElem?_range hi] at e
  cases e
  show ∃ S3, _ ∧ _ ∧ Rep K S3 φ2 _ (.int (lo + (i : Nat))) (.int (lo + (i : Nat) * 1))
  rw [Int.mul_one]
  exact ⟨S2, .refl, I2, .int _⟩
/-- a new pair -/
theorem pair_new {st : Sto} {T : Addr} {x y : V} {d e : D} (I : SI K S φ H st) (hT : H T = none) (rx : Rep K S φ H x d) (ry : Rep K S φ H y e) :
    ∃ S3, Stp S φ H S3 φ (upd H T (.tup [x, y])) ∧ SI K S3 φ (upd H T (.tup [x, y])) st ∧ Rep K S3 φ (upd H T (.tup [x, y])) (.ref T) (.tup [d, e]) :=
  ⟨add S T, Stp.alloc hT, I.alloc hT, rep_tup I hT (.cons rx (.cons ry .nil))⟩
def enumL (ds : List D) : List D := (List.range ds.length).zipWith (fun (i : Nat) d => D.tup [.int i, d]) ds
theorem enumL_get {i : Nat} {d : D} (h : (enumL ds)[i]? = some d) : ∃ e, ds[i]? = some e ∧ d = .tup [.int i, e] := by
  unfold enumL at h
  rw [List.getElem?_zipWith] at h
  cases h2 : ds[i]? with
  | none => rw [h2] at h; simp at h
  | some e =>
    have hi := (List.getElem?_eq_some_iff.mp h2).1
    rw [h2, List.getElem?_range hi] at h
    cases h
    exact ⟨e, rfl, rfl⟩
theorem enumL_len : (enumL ds).length = ds.length := by simp [enumL]
theorem jok_enum {a : Addr} (ho : a ∉ φ) (hs : o = false → S a) (h : H a = some (.lst vs)) (r : RepL K S φ H vs ds) : JOk K o S φ H (Ite K a) (enumL ds) := by
  refine ⟨[a], fun b hb => ?_, fun S2 φ2 H2 hw hk sub hφ => ?_⟩
  · have : b = a := by simpa using hb
    subst this
    exact ⟨by rw [h]; simp, ho, hs⟩
  · have e2 : H2 a = some (.lst vs) := (hw a (by simp)).trans h
    have W := walk_enum (K := K) (a := a) (xs := vs)
    have q : SqL K H2 a vs := .inl (.inl e2)
    rw [enumL_len, ← r.length]
    refine ⟨fun i hi => W.goes i H2 hi q, W.stops H2 q, fun i d x H3 e y st2 I2 => ?_⟩
    obtain ⟨e, ee, rfl⟩ := enumL_get e
    have hi : i < vs.length := by rw [r.length]; exact (List.getElem?_eq_some_iff.mp ee).1
    obtain ⟨T, x1, x2, rfl, hT, rfl, h1, h2⟩ := W.yields i H2 x H3 hi q y
    cases h1
    obtain ⟨v, ev, rv⟩ := r.get ee
    have h2' : vs[i]? = some x2 := h2
    rw [h2'] at ev; cases ev
    exact pair_new I2 hT (.int _) (rv.tr hk sub hφ)
theorem walk_enumT {a : Addr} {xs : List V} : Walk (IteT K a) xs.length (fun H => SqT K H a xs) (YPair (fun i => some (.int (i : Nat))) (fun i => xs[i]?)) := by
  refine ⟨fun i _ hi q => ⟨xs, xs[i], q, by simp [hi]⟩, fun _ q => ⟨xs, q, rfl⟩, fun i H v H' _ q y => ?_⟩
  obtain ⟨T, x, h1, h2, h3, h4⟩ := y
  exact ⟨T, .int (i : Nat), x, h1, h2, h3, rfl, h4 xs q⟩
theorem jok_enumT {a : Addr} (h : Tp K S H a vs) (r : RepL K S φ H vs ds) : JOk K o S φ H (IteT K a) (enumL ds) := by
  refine ⟨[], fun b hb => by simp at hb, fun S2 φ2 H2 hw hk sub hφ => ?_⟩
  have W := walk_enumT (K := K) (a := a) (xs := vs)
  have q : SqT K H2 a vs := by
    rcases h with ⟨h1, h2⟩ | h
    · exact .inl (.inl ((hk a h1).trans h2))
    · exact .inr h
  rw [enumL_len, ← r.length]
  refine ⟨fun i hi => W.goes i H2 hi q, W.stops H2 q, fun i d x H3 e y st2 I2 => ?_⟩
  obtain ⟨e, ee, rfl⟩ := enumL_get e
  have hi : i < vs.length := by rw [r.length]; exact (List.getElem?_eq_some_iff.mp ee).1
  obtain ⟨T, x1, x2, rfl, hT, rfl, h1, h2⟩ := W.yields i H2 x H3 hi q y
  cases h1
  obtain ⟨v, ev, rv⟩ := r.get ee
  have h2' : vs[i]? = some x2 := h2
  rw [h2'] at ev; cases ev
  exact pair_new I2 hT (.int _) (rv.tr hk sub hφ)
def zipL (xs ys : List D) : List D := xs.zipWith (fun a b => D.tup [a, b]) ys
theorem zipL_get {i : Nat} {d : D} (h : (zipL ds es)[i]? = some d) : ∃ a b, ds[i]? = some a ∧ es[i]? = some b ∧ d = .tup [a, b] := by
  unfold zipL at h
  rw [List.getElem?_zipWith] at h
  cases h1 : ds[i]? with
  | none => rw [h1] at h; simp at h
  | some a =>
    cases h2 : es[i]? with
    | none => rw [h1, h2] at h; simp at h
    | some b => rw [h1, h2] at h; cases h; exact ⟨a, b, rfl, rfl, rfl⟩
theorem jok_zip {a b : Addr} (ho : a ∉ φ) (hs : o = false → S a) (h : H a = some (.lst vs)) (r : RepL K S φ H vs ds) (ho' : b ∉ φ) (hs' : o = false → S b) (h' : H b = some (.lst ws)) (r' : RepL K S φ H ws es) : JOk K o S φ H (Itz K a b) (zipL ds es) := by
  refine ⟨[a, b], fun c hc => ?_, fun S2 φ2 H2 hw hk sub hφ => ?_⟩
  · have : c = a ∨ c = b := by simpa using hc
    rcases this with e | e
    · subst e; exact ⟨by rw [h]; simp, ho, hs⟩
    · subst e; exact ⟨by rw [h']; simp, ho', hs'⟩
  · have e2 : H2 a = some (.lst vs) := (hw a (by simp)).trans h
    have e3 : H2 b = some (.lst ws) := (hw b (by simp)).trans h'
    have el : (zipL ds es).length = min vs.length ws.length := by simp [zipL, r.length, r'.length]
    have W := walk_zip (K := K) (a := a) (b := b) (xs := vs) (ys := ws) el
    have q : SqL K H2 a vs ∧ SqL K H2 b ws := ⟨.inl (.inl e2), .inl (.inl e3)⟩
    refine ⟨fun i hi => W.goes i H2 hi q, W.stops H2 q, fun i d x H3 e y st2 I2 => ?_⟩
    have hi := (List.getElem?_eq_some_iff.mp e).1
    obtain ⟨d1, d2, ee1, ee2, rfl⟩ := zipL_get e
    obtain ⟨T, x1, x2, rfl, hT, rfl, h1, h2⟩ := W.yields i H2 x H3 hi q y
    obtain ⟨v, ev, rv⟩ := r.get ee1
    obtain ⟨v', ev', rv'⟩ := r'.get ee2
    have h1' : vs[i]? = some x1 := h1
    have h2' : ws[i]? = some x2 := h2
    rw [h1'] at ev; cases ev
    rw [h2'] at ev'; cases ev'
    exact pair_new I2 hT (rv.tr hk sub hφ) (rv'.tr hk sub hφ)
theorem walk_zipT {a b : Addr} {xs ys : List V} {n : Nat} (hn : n = min xs.length ys.length) : Walk (RZ.ItzT K a b) n (fun H => SqT K H a xs ∧ SqT K H b ys) (YPair (fun i => xs[i]?) (fun i => ys[i]?)) := by
  subst hn
  refine ⟨fun i _ hi q => ?_, fun _ q => ⟨xs, ys, q.1, q.2, by omega⟩, fun i H v H' _ q y => ?_⟩
  · have h1 : i < xs.length := by omega
    have h2 : i < ys.length := by omega
    exact ⟨xs, ys, xs[i], ys[i], q.1, q.2, by simp [h1], by simp [h2]⟩
  · obtain ⟨T, x, z, h1, h2, h3, h4, h5⟩ := y
    exact ⟨T, x, z, h1, h2, h3, h4 xs q.1, h5 ys q.2⟩
theorem jok_zipT {a b : Addr} (h : Tp K S H a vs) (r : RepL K S φ H vs ds) (h' : Tp K S H b ws) (r' : RepL K S φ H ws es) : JOk K o S φ H (RZ.ItzT K a b) (zipL ds es) := by
  refine ⟨[], fun b hb => by simp at hb, fun S2 φ2 H2 hw hk sub hφ => ?_⟩
  have el : (zipL ds es).length = min vs.length ws.length := by simp [zipL, r.length, r'.length]
  have W := walk_zipT (K := K) (a := a) (b := b) (xs := vs) (ys := ws) el
  have up : ∀ {a : Addr} {vs : List V}, Tp K S H a vs → SqT K H2 a vs := fun {a vs} h => by
    rcases h with ⟨h1, h2⟩ | h
    · exact .inl (.inl ((hk a h1).trans h2))
    · exact .inr h
  have q : SqT K H2 a vs ∧ SqT K H2 b ws := ⟨up h, up h'⟩
  refine ⟨fun i hi => W.goes i H2 hi q, W.stops H2 q, fun i d x H3 e y st2 I2 => ?_⟩
  have hi := (List.getElem?_eq_some_iff.mp e).1
  obtain ⟨d1, d2, ee1, ee2, rfl⟩ := zipL_get e
  obtain ⟨T, x1, x2, rfl, hT, rfl, h1, h2⟩ := W.yields i H2 x H3 hi q y
  obtain ⟨v, ev, rv⟩ := r.get ee1
  obtain ⟨v', ev', rv'⟩ := r'.get ee2
  have h1' : vs[i]? = some x1 := h1
  have h2' : ws[i]? = some x2 := h2
  rw [h1'] at ev; cases ev
  rw [h2'] at ev'; cases ev'
  exact pair_new I2 hT (rv.tr hk sub hφ) (rv'.tr hk sub hφ)
theorem repM_lst {v : V} {st : Sto} (I : SI K S φ H st) (h : RepM o K S φ H v (.lst ds)) : ∃ a vs, v = .ref a ∧ a ∉ φ ∧ (o = false → S a) ∧ H a = some (.lst vs) ∧ RepL K S φ H vs ds := by
  rcases h with h | ⟨e, a, vs, ds', rfl, e2, h1, h2, h3⟩
  · cases h with
    | lst hs h r => exact ⟨_, _, rfl, fun q => I.dis _ q hs, fun _ => hs, h, r⟩
  · cases e2
    exact ⟨a, vs, rfl, h1, (fun q => by rw [e] at q; cases q), h2, h3⟩
theorem repM_tup {v : V} (h : RepM o K S φ H v (.tup ds)) : ∃ a vs, v = .ref a ∧ Tp K S H a vs ∧ RepL K S φ H vs ds := by
  rcases h with h | ⟨e, a, vs, ds', rfl, e2, h1, h2, h3⟩
  · cases h with
    | tup h r => exact ⟨_, _, rfl, h, r⟩
  · cases e2
end
section
variable {Γ : Ctx} {L : LC} {o : Bool} {e a b : Expr} {tg : Expr}
theorem ss_seq {ca : Ex} {cf gs} (h : SE Γ L o a (ev cf gs o ca)) : SS Γ L o tg a (evI cf gs o (.seq ca)) := by
  obtain ⟨t, p, q⟩ := h
  refine ⟨iSeq Γ.K t, fun X g => by rw [← g.K]; exact pi_seq (p X g), fun σ H env st S φ R E I f => ?_⟩
  unfold evI at f
  obtain ⟨d, s1, e1, f1⟩ := f.bind
  refine SE.use q E I e1 fun v H1 S1 φ1 x1 E1 I1 r1 => ?_
  cases d with
  | lst ds =>
    obtain ⟨a, vs, rfl, h1, h2, h3, h4⟩ := repM_lst I1 r1
    exact .inl ⟨a, rfl, .inl ⟨vs, .inl (.inl h3), f1 _ H1 S1 φ1 x1 I1 (jok_list h1 h2 h3 h4)⟩⟩
  | tup ds =>
    obtain ⟨a, vs, rfl, h1, h2⟩ := repM_tup r1
    exact .inl ⟨a, rfl, .inr ⟨vs, h1.sq, f1 _ H1 S1 φ1 x1 I1 (jok_tup h1 h2)⟩⟩
  | str z =>
    have := r1.rd0.str
    exact .inr ⟨z, this, f1 _ H1 S1 φ1 x1 I1 jok_str⟩
  | _ => exact False.elim f1
theorem ss_enm (Γok : CtxOk Γ) {ca : Ex} {cf gs} {x : Str} {p pos tpos : Pos} {elts : List Expr} {kk : Nat} (hx : x = ("enumerate" : Str)) (hf : x ∈ Γ.m.fr) (hg : glB L.sc x = true)
    (hst : ∀ env r, starEach (a :: r) env = (false, eval a env) :: starEach r env) (h : SE Γ L o a (ev cf gs o ca)) : SS Γ L o (.Tuple elts kk tpos) (.Call (.Name x p) [a] [] pos) (evI cf gs o (.enm ca)) := by
  obtain ⟨t, p1, q⟩ := h
  subst hx
  refine ⟨iEnumA Γ.K (tCons t tNil), fun X g => by rw [← g.K]; exact pi_enumA (g.gl hg) (by rw [g.mg]; exact Γok.fr _ hf) (pa_cons (p1 X g) pa_nil (hst _ _)) (hst _ _), fun σ H env st S φ R E I f => ?_⟩
  unfold evI at f
  obtain ⟨d, s1, e1, f1⟩ := f.bind
  refine SE.use q E I e1 fun v H1 S1 φ1 x1 E1 I1 r1 => ?_
  cases d with
  | lst ds =>
    obtain ⟨a, vs, rfl, h1, h2, h3, h4⟩ := repM_lst I1 r1
    exact ⟨a, vs, rfl, .inl ⟨.inl (.inl h3), f1 _ H1 S1 φ1 x1 I1 (jok_enum h1 h2 h3 h4)⟩⟩
  | tup ds =>
    obtain ⟨a, vs, rfl, h1, h2⟩ := repM_tup r1
    exact ⟨a, vs, rfl, .inr ⟨h1.sq, f1 _ H1 S1 φ1 x1 I1 (jok_enumT h1 h2)⟩⟩
  | _ => exact False.elim f1
theorem ss_zip (Γok : CtxOk Γ) {ca cb : Ex} {cf gs} {x : Str} {p pos tpos : Pos} {elts : List Expr} {kk : Nat} (hx : x = ("zip" : Str)) (hf : x ∈ Γ.m.fr) (hg : glB L.sc x = true)
    (hst : ∀ env r, starEach (a :: r) env = (false, eval a env) :: starEach r env) (hst2 : ∀ env r, starEach (b :: r) env = (false, eval b env) :: starEach r env) (h : SE Γ L o a (ev cf gs o ca)) (h2 : SE Γ L o b (ev cf gs o cb)) :
    SS Γ L o (.Tuple elts kk tpos) (.Call (.Name x p) [a, b] [] pos) (evI cf gs o (.zip ca cb)) := by
  obtain ⟨t, p1, q⟩ := h
  obtain ⟨t2, p2, q2⟩ := h2
  subst hx
  refine ⟨RZ.iZipA Γ.K (tCons t (tCons t2 tNil)), fun X g => by rw [← g.K]; exact RZ.pi_zipA (g.gl hg) (by rw [g.mg]; exact Γok.fr _ hf) (pa_cons (p1 X g) (pa_cons (p2 X g) pa_nil (hst2 _ _)) (hst _ _)) (hst _ _) (by rw [hst2]; rfl), fun σ H env st S φ R E I f => ?_⟩
  unfold evI at f
  obtain ⟨d, s1, e1, f1⟩ := f.bind
  obtain ⟨d2, s2, e2, f2⟩ := f1.bind
  refine SE.use q E I e1 fun v H1 S1 φ1 x1 E1 I1 r1 => ?_
  refine SE.use q2 E1 I1 e2 fun w H2 S2 φ2 x2 E2 I2 r2 => ?_
  have r1' := r1.mono x2 I1
  cases d with
  | lst ds =>
    cases d2 with
    | lst es =>
      obtain ⟨a, vs, rfl, h1, h2, h3, h4⟩ := repM_lst I2 r1'
      obtain ⟨b, ws, rfl, k1, k2, k3, k4⟩ := repM_lst I2 r2
      exact ⟨a, b, vs, ws, rfl, .inl ⟨.inl (.inl h3), .inl (.inl k3), f2 _ H2 S2 φ2 (x1.trans x2) I2 (jok_zip h1 h2 h3 h4 k1 k2 k3 k4)⟩⟩
    | _ => exact False.elim f2
  | tup ds =>
    cases d2 with
    | tup es =>
      obtain ⟨a, vs, rfl, h1, h2⟩ := repM_tup r1'
      obtain ⟨b, ws, rfl, k1, k2⟩ := repM_tup r2
      exact ⟨a, b, vs, ws, rfl, .inr ⟨h1.sq, k1.sq, f2 _ H2 S2 φ2 (x1.trans x2) I2 (jok_zipT h1 h2 k1 k2)⟩⟩
    | _ => exact False.elim f2
  | _ => exact False.elim f2
theorem ss_rg1 (Γok : CtxOk Γ) {ca : Ex} {cf gs} {x : Str} {p pos : Pos} (hx : x = ("range" : Str)) (hf : x ∈ Γ.m.fr) (hg : glB L.sc x = true)
    (hst : ∀ env r, starEach (a :: r) env = (false, eval a env) :: starEach r env) (h : SE Γ L true a (ev cf gs true ca)) : SS Γ L o tg (.Call (.Name x p) [a] [] pos) (evI cf gs o (.rg1 ca)) := by
  obtain ⟨t, p1, q⟩ := h
  subst hx
  refine ⟨iRng1 (tCons t tNil), fun X g => pi_range1 (g.gl hg) (by rw [g.mg]; exact Γok.fr _ hf) (pa_cons (p1 X g) pa_nil (hst _ _)) (hst _ _), fun σ H env st S φ R E I f => ?_⟩
  unfold evI at f
  obtain ⟨d, s1, e1, f1⟩ := f.bind
  refine SE.use q E I e1 fun v H1 S1 φ1 x1 E1 I1 r1 => ?_
  unfold rng1? at f1
  split at f1
  · split at f1
    · rename_i j hj
      have := r1.rd0.int
      subst this
      exact ⟨j, rfl, hj.1, hj.2, f1 _ H1 S1 φ1 x1 I1 jok_range⟩
    · exact False.elim f1
  · exact False.elim f1
theorem ss_rg2 (Γok : CtxOk Γ) {ca cb : Ex} {cf gs} {x : Str} {p pos : Pos} (hx : x = ("range" : Str)) (hf : x ∈ Γ.m.fr) (hg : glB L.sc x = true)
    (hst : ∀ env r, starEach (a :: r) env = (false, eval a env) :: starEach r env) (hst2 : ∀ env r, starEach (b :: r) env = (false, eval b env) :: starEach r env) (h : SE Γ L true a (ev cf gs true ca)) (h2 : SE Γ L true b (ev cf gs true cb)) :
    SS Γ L o tg (.Call (.Name x p) [a, b] [] pos) (evI cf gs o (.rg2 ca cb)) := by
  obtain ⟨t, p1, q⟩ := h
  obtain ⟨t2, p2, q2⟩ := h2
  subst hx
  refine ⟨iRng2 (tCons t (tCons t2 tNil)), fun X g => pi_range2 (g.gl hg) (by rw [g.mg]; exact Γok.fr _ hf) (pa_cons (p1 X g) (pa_cons (p2 X g) pa_nil (hst2 _ _)) (hst _ _)) (by rw [hst, hst2]; rfl) (by rw [hst2]; rfl), fun σ H env st S φ R E I f => ?_⟩
  unfold evI at f
  obtain ⟨d, s1, e1, f1⟩ := f.bind
  obtain ⟨d2, s2, e2, f2⟩ := f1.bind
  refine SE.use q E I e1 fun v H1 S1 φ1 x1 E1 I1 r1 => ?_
  refine SE.use q2 E1 I1 e2 fun w H2 S2 φ2 x2 E2 I2 r2 => ?_
  unfold rng2? at f2
  split at f2
  · split at f2
    · rename_i i j hj
      have e1 := r1.rd0.int
      have e2 := r2.rd0.int
      subst e1 e2
      exact ⟨i, j, rfl, hj, f2 _ H2 S2 φ2 (x1.trans x2) I2 jok_range⟩
    · exact False.elim f2
  · exact False.elim f2
theorem ss_no {e : Expr} {m : Env → Sto → Out (List D)} (h : ∀ env s, m env s = .err) : SS Γ L o tg e m :=
  ⟨fun _ _ _ => False, fun X _ => ⟨fun _ _ _ _ _ _ q => q.elim⟩, fun σ H env st S φ R E I f => by rw [h] at f; exact f⟩
end
end PV
set_option maxRecDepth 100000
set_option maxHeartbeats 4000000
/-! Comprehensions. -/
namespace PV
open PySem PySem.Spec PyProof.Rows L2
/-- a step during which the new list at Dl grows -/
structure StpD (Dl : Addr) (S : Addr → Prop) (φ : List Addr) (H : Hp) (S' : Addr → Prop) (φ' : List Addr) (H' : Hp) : Prop where
  keep : ∀ a o, H a = some o → a ∉ φ → a ≠ Dl → H' a = some o
  some : ∀ a, H a ≠ none → H' a ≠ none
  sub : ∀ a, S a → S' a
  new : ∀ a, S' a → S a ∨ H a = none
  phi : ∃ ψ, φ' = φ ++ ψ ∧ ∀ a ∈ ψ, H a = none
section
variable {K : PySem.W.Frag} {Dl : Addr} {S S' S2 : Addr → Prop} {φ φ' φ2 : List Addr} {H H' H2 : Hp} {st st' : Sto}
theorem StpD.of (x : Stp S φ H S' φ' H') : StpD Dl S φ H S' φ' H' := ⟨fun a o h n _ => x.keep a o h n, x.some, x.sub, x.new, x.phi⟩
theorem StpD.to (x : StpD Dl S φ H S' φ' H') (hD : H Dl = none) : Stp S φ H S' φ' H' := ⟨fun a o h n => x.keep a o h n (fun e => by rw [e, hD] at h; cases h), x.some, x.sub, x.new, x.phi⟩
theorem StpD.free (x : StpD Dl S φ H S' φ' H') {a : Addr} (h : H' a = none) : H a = none := by
  cases e : H a with
  | none => rfl
  | some o => exact absurd h (x.some a (by rw [e]; simp))
theorem StpD.trans (x : StpD Dl S φ H S' φ' H') (y : StpD Dl S' φ' H' S2 φ2 H2) : StpD Dl S φ H S2 φ2 H2 := by
  obtain ⟨ψ, e, hf⟩ := x.phi
  obtain ⟨ψ2, e2, hf2⟩ := y.phi
  subst e
  refine ⟨fun a o h ha hd => ?_, fun a h => y.some a (x.some a h), fun a h => y.sub a (x.sub a h), fun a h => ?_, ψ ++ ψ2, by rw [e2, List.append_assoc], fun a ha => ?_⟩
  · refine y.keep a o (x.keep a o h ha hd) (fun hm => ?_) hd
    rcases List.mem_append.mp hm with q | q
    · exact ha q
    · have := hf a q; rw [h] at this; cases this
  · rcases y.new a h with q | q
    · exact x.new a q
    · exact .inr (x.free q)
  · rcases List.mem_append.mp ha with q | q
    · exact hf a q
    · exact x.free (hf2 a q)
theorem StpD.upd {o : HO} : StpD Dl S φ H S φ (upd H Dl o) :=
  ⟨fun a o' h _ n => by rw [upd_ne n]; exact h, fun a h => by
    by_cases e : a = Dl
    · rw [e, upd_same]; simp
    · rw [upd_ne e]; exact h, fun _ h => h, fun _ h => .inl h, [], by simp⟩
theorem StpD.same (x : StpD Dl S φ H S' φ' H') (I : SI K S φ H st) (hD : ¬ S Dl) : ∀ a, S a → H' a = H a := fun a h => by
  cases e : H a with
  | none => exact absurd e (I.dom a h)
  | some o => exact x.keep a o e (fun q => I.dis a q h) (fun q => hD (q ▸ h))
theorem StpD.pre (x : StpD Dl S φ H S' φ' H') : ∃ ψ, φ' = φ ++ ψ := let ⟨ψ, e, _⟩ := x.phi; ⟨ψ, e⟩
theorem SI.upd {o : HO} (I : SI K S φ H st) (h1 : ¬ S Dl) (h2 : Dl ∉ φ) : SI K S φ (L2.upd H Dl o) st := by
  refine ⟨fun a h => ?_, I.dis, I.len, I.nd, fun n a ds e1 e2 => ?_⟩
  · by_cases e : a = Dl
    · rw [e, upd_same]; simp
    · rw [upd_ne e]; exact I.dom a h
  · obtain ⟨vs, q1, q2⟩ := I.obj n a ds e1 e2
    have hne : a ≠ Dl := fun e => h2 (e ▸ List.mem_of_getElem? e1)
    exact ⟨vs, by rw [upd_ne hne]; exact q1, q2.tr (fun b hb => upd_ne (fun e => h1 (by rw [← e]; exact hb))) (fun _ q => q) ⟨[], by simp⟩⟩
def NoOwn (env : Env) : Prop := ∀ (i : Nat) ds, env[i]? ≠ some (some (.own ds))
theorem noOwn_no (env : Env) : NoOwn (noOwn env) := fun i ds h => by
  unfold noOwn at h
  rw [List.getElem?_map] at h
  cases e : env[i]? with
  | none => rw [e] at h; cases h
  | some x =>
    rw [e] at h
    cases x with
    | none => cases h
    | some y => cases y <;> cases h
theorem NoOwn.set {env : Env} {i : Nat} {d : PV.D} (h : NoOwn env) : NoOwn (env.set i (some (.val d))) := fun j ds e => by
  rcases set_get e with ⟨_, e, _⟩ | ⟨_, e⟩
  · cases e
  · exact h j ds e
theorem NoOwn.del {env : Env} {i : Nat} (h : NoOwn env) : NoOwn (env.set i none) := fun j ds e => by
  by_cases q : i = j
  · subst q
    by_cases hi : i < env.length
    · rw [List.getElem?_set_self hi] at e; cases e
    · rw [List.getElem?_eq_none (by simpa using hi)] at e; cases e
  · rw [List.getElem?_set_ne q] at e; exact h j ds e
theorem NoOwn.wipe {env : Env} (h : NoOwn env) : ∀ vs, NoOwn (wipeE env vs)
  | [] => h
  | v :: vs => (NoOwn.wipe h vs).del
mutual
theorem NoOwn.bind : ∀ {c : Tg} {d : PV.D} {env env' : Env}, NoOwn env → bindT c d env = some env' → NoOwn env'
  | .nm i, d, env, env', h, e => by cases e; exact h.set
  | .tp ts, .tup ds, env, env', h, e => NoOwn.binds h (show bindTs ts ds env = some env' from e)
  | .tp ts, .non, _, _, _, e => by cases e
  | .tp ts, .bl _, _, _, _, e => by cases e
  | .tp ts, .int _, _, _, _, e => by cases e
  | .tp ts, .str _, _, _, _, e => by cases e
  | .tp ts, .lst _, _, _, _, e => by cases e
  | .tp ts, .rol _, _, _, _, e => by cases e
  | .tp ts, .loc _, _, _, _, e => by cases e
theorem NoOwn.binds : ∀ {cs : Tgs} {ds : List PV.D} {env env' : Env}, NoOwn env → bindTs cs ds env = some env' → NoOwn env'
  | .nil, [], _, _, h, e => by cases e; exact h
  | .nil, _ :: _, _, _, _, e => by cases e
  | .c t ts, [], _, _, _, e => by cases e
  | .c t ts, d :: ds, env, env', h, e => by
    have e' : (match bindT t d env with
      | some env' => bindTs ts ds env'
      | none => none) = some env' := e
    cases eb : bindT t d env with
    | none => rw [eb] at e'; cases e'
    | some env1 => rw [eb] at e'; exact NoOwn.binds (NoOwn.bind h eb) e'
end
theorem EI.no {σ : L2.St} {env : Env} (E : EI K S φ H σ env) : EI K S φ H σ (noOwn env) := by
  refine ⟨by simp [noOwn, E.len], fun i d h => E.val i d ?_, fun i ds h => absurd h (noOwn_no env i ds), fun i j ds es a h => absurd h (noOwn_no env i ds)⟩
  unfold noOwn at h
  rw [List.getElem?_map] at h
  cases e : env[i]? with
  | none => rw [e] at h; cases h
  | some x =>
    rw [e] at h
    cases x with
    | none => cases h
    | some y =>
      cases y with
      | val d' => cases h; rfl
      | own ds => cases h
theorem EI.del {σ : L2.St} {env : Env} {i : Nat} (E : EI K S φ H σ env) (n : NoOwn env) : EI K S φ H (σ.set i none) (env.set i none) := by
  refine ⟨by simp [E.len], fun j d h => ?_, fun j ds h => absurd h (n.del j ds), fun j l ds es a h => absurd h (n.del j ds)⟩
  by_cases q : i = j
  · subst q
    by_cases hi : i < env.length
    · rw [List.getElem?_set_self hi] at h; cases h
    · rw [List.getElem?_eq_none (by simpa using hi)] at h; cases h
  · rw [List.getElem?_set_ne q] at h ⊢
    exact E.val j d h
theorem EI.wipe {σ : L2.St} {env : Env} (E : EI K S φ H σ env) (n : NoOwn env) : ∀ vs, EI K S φ H (wipe σ vs) (wipeE env vs)
  | [] => E
  | v :: vs => (EI.wipe E n vs).del (n.wipe vs)
theorem EI.monoD {σ : L2.St} {env : Env} (E : EI K S φ H σ env) (n : NoOwn env) (x : StpD Dl S φ H S' φ' H') (I : SI K S φ H st) (hD : ¬ S Dl) : EI K S' φ' H' σ env :=
  ⟨E.len, fun i d h => let ⟨v, e, r⟩ := E.val i d h; ⟨v, e, r.tr (x.same I hD) x.sub x.pre⟩, fun i ds h => absurd h (n i ds), E.inj⟩
theorem wipe_idem {σ : L2.St} : ∀ {vs ws : List Nat}, (∀ i ∈ vs, i ∈ ws) → wipe (wipe σ ws) vs = wipe σ ws
  | [], ws, _ => rfl
  | v :: vs, ws, h => by
    show (wipe (wipe σ ws) vs).set v none = _
    rw [wipe_idem fun i hi => h i (List.mem_cons_of_mem _ hi)]
    have hv : v ∈ ws := h v List.mem_cons_self
    apply List.ext_getElem?
    intro j
    by_cases q : v = j
    · subst q
      by_cases hl : v < (wipe σ ws).length
      · rw [List.getElem?_set_self hl]
        cases e : (wipe σ ws)[v]? with
        | none => exact absurd (List.getElem?_eq_none_iff.mp e) (by omega)
        | some y =>
          cases y with
          | none => rfl
          | some z => exact absurd hv (wipe_some e).2
      · rw [List.getElem?_eq_none (by simpa using hl), List.getElem?_eq_none (by simpa using hl)]
    · rw [List.getElem?_set_ne q]
/-- where a comprehension stands: Dl has what was made so far -/
structure AR (K : PySem.W.Frag) (Dl : Addr) (S1 : Addr → Prop) (φ1 : List Addr) (H1 : Hp) (S : Addr → Prop) (φ : List Addr) (H : Hp) (st : Sto) (da : List PV.D) : Prop where
  stp : StpD Dl S1 φ1 H1 S φ H
  si : SI K S φ H st
  ns : ¬ S Dl
  nφ : Dl ∉ φ
  acc : ∃ acc, H Dl = some (.lst acc) ∧ RepL K S φ H acc da
theorem AR.go {S1 : Addr → Prop} {φ1 : List Addr} {H1 : Hp} {da : List PV.D} (A : AR K Dl S1 φ1 H1 S φ H st da) (x : Stp S φ H S' φ' H') (I : SI K S' φ' H' st') : AR K Dl S1 φ1 H1 S' φ' H' st' da := by
  obtain ⟨acc, h, r⟩ := A.acc
  refine ⟨A.stp.trans (.of x), I, fun q => ?_, fun q => ?_, acc, x.keep Dl _ h A.nφ, r.mono x A.si⟩
  · rcases x.new Dl q with q | q
    · exact A.ns q
    · rw [h] at q; cases q
  · obtain ⟨ψ, e, hf⟩ := x.phi
    rw [e] at q
    rcases List.mem_append.mp q with q | q
    · exact A.nφ q
    · have := hf Dl q; rw [h] at this; cases this
theorem AR.base {S1 : Addr → Prop} {φ1 : List Addr} {H1 : Hp} {da : List PV.D} (A : AR K Dl S1 φ1 H1 S φ H st da) : AR K Dl S φ H S φ H st da := ⟨.of .refl, A.si, A.ns, A.nφ, A.acc⟩
theorem AR.over {S1 : Addr → Prop} {φ1 : List Addr} {H1 : Hp} {da : List PV.D} (x : StpD Dl S φ H S1 φ1 H1) (A : AR K Dl S1 φ1 H1 S' φ' H' st da) : AR K Dl S φ H S' φ' H' st da := ⟨x.trans A.stp, A.si, A.ns, A.nφ, A.acc⟩
theorem AR.push {S1 : Addr → Prop} {φ1 : List Addr} {H1 : Hp} {da : List PV.D} {acc : List V} {y : V} {d : PV.D} (A : AR K Dl S1 φ1 H1 S φ H st da) (h : H Dl = some (.lst acc)) (r : RepL K S φ H acc da) (ry : Rep K S φ H y d) :
    AR K Dl S1 φ1 H1 S φ (L2.upd H Dl (.lst (acc ++ [y]))) st (da ++ [d]) :=
  ⟨A.stp.trans .upd, A.si.upd A.ns A.nφ, A.ns, A.nφ, _, upd_same, (r.append (.cons ry .nil)).tr (fun a ha => upd_ne (fun e => A.ns (by rw [← e]; exact ha))) (fun _ q => q) ⟨[], by simp⟩⟩
/-- the loop of a comprehension -/
theorem comp_loop {o : Bool} {J : It} {ds ys : List PV.D} {f : PV.D → Sto → Out (List PV.D)} {S1 : Addr → Prop} {φ1 : List Addr} {H1 H0 : Hp} {st1 st2 : Sto} {da : List PV.D} {B : V → Hp → (Hp → Prop) → Prop} {Qd : Hp → Prop} {S0 : Addr → Prop} {φ0 : List Addr}
    (I1 : SI K S1 φ1 H1 st1) (n1 : ¬ S1 Dl) (J1 : JOk K o S1 φ1 H1 J ds) (hw : H1 Dl = none ∨ o = false) (A0 : AR K Dl S1 φ1 H1 S0 φ0 H0 st1 da) (hf : flatF f ds st1 = .ok ys st2) (hz : da.length + ys.length ≤ LINE)
    (turn : ∀ d S φ H st db zs st', d ∈ ds → AR K Dl S1 φ1 H1 S φ H st db → f d st = .ok zs st' → db.length + zs.length ≤ LINE → ∀ x, Rep K S φ H x d →
      ∀ Nx : Hp → Prop, (∀ S' φ' H', AR K Dl S1 φ1 H1 S' φ' H' st' (db ++ zs) → Nx H') → B x H Nx)
    (hend : ∀ S φ H, AR K Dl S1 φ1 H1 S φ H st2 (da ++ ys) → Qd H) :
    ∃ W : Nat → Nat → Hp → Prop, (∃ m, W 0 m H0) ∧ ∀ i m H, W i m H → (J.stop i H ∧ Qd H) ∨ (J.go i H ∧ ∃ Nx : Hp → Prop, (∀ H', Nx H' → ∃ m', m' < m ∧ W (i + 1) m' H') ∧ ∀ x H', J.yld i H x H' → B x H' Nx) := by
  obtain ⟨wt, hwt, hJ⟩ := J1
  refine ⟨fun i m H => ∃ S φ st db zs, m = ds.length - i ∧ i ≤ ds.length ∧ AR K Dl S1 φ1 H1 S φ H st db ∧ flatF f (ds.drop i) st = .ok zs st2 ∧ db ++ zs = da ++ ys, ⟨_, S0, φ0, st1, da, ys, rfl, Nat.zero_le _, A0, hf, rfl⟩, ?_⟩
  rintro i m H ⟨S, φ, st, db, zs, rfl, hi, A, hF, he⟩
  have per : (∀ a ∈ wt, H a = H1 a) := fun a ha => by
    obtain ⟨h1, h2, h3⟩ := hwt a ha
    cases e : H1 a with
    | none => exact absurd e h1
    | some ob =>
      refine A.stp.keep a ob e h2 fun q => ?_
      rcases hw with z | z
      · rw [q, z] at e; cases e
      · exact n1 (q ▸ h3 z)
  obtain ⟨g1, g2, g3⟩ := hJ S φ H per (A.stp.same I1 n1) A.stp.sub A.stp.pre
  by_cases hlt : i < ds.length
  · refine .inr ⟨g1 i hlt, ?_⟩
    have ed : ds.drop i = ds[i] :: ds.drop (i + 1) := List.drop_eq_getElem_cons hlt
    rw [ed] at hF
    unfold flatF at hF
    cases e1 : f ds[i] st with
    | err => rw [e1] at hF; cases hF
    | ok z1 s1 =>
      simp only [e1, Out.bind] at hF
      cases e2 : flatF f (ds.drop (i + 1)) s1 with
      | err => rw [e2] at hF; cases hF
      | ok z2 s2 =>
        rw [e2] at hF
        cases hF
        refine ⟨fun H' => ∃ S' φ', AR K Dl S1 φ1 H1 S' φ' H' s1 (db ++ z1), fun H' ⟨S', φ', A'⟩ => ⟨ds.length - (i + 1), by omega, S', φ', s1, db ++ z1, z2, rfl, hlt, A', e2, by rw [List.append_assoc]; exact he⟩, fun x H' y => ?_⟩
        obtain ⟨S3, x3, I3, r3⟩ := g3 i ds[i] x H' (List.getElem?_eq_getElem hlt) y st A.si
        have hl : (db ++ (z1 ++ z2)).length = (da ++ ys).length := by rw [he]
        simp only [List.length_append] at hl
        exact turn ds[i] S3 φ H' st db z1 s1 (List.getElem_mem hlt) (A.go x3 I3) e1 (by omega) x r3 _ fun S' φ' H2 A2 => ⟨S', φ', A2⟩
  · have e : i = ds.length := by omega
    subst e
    rw [List.drop_length] at hF
    unfold flatF at hF
    cases hF
    rw [List.append_nil] at he
    subst he
    exact .inl ⟨g2, hend S φ H A⟩
end
section
variable {Γ : Ctx} {L : LC} {o : Bool} {e a b : Expr}
theorem Good.blk {X : Cx} {scope : Scope} (g : Good Γ L X) (s : Shared) (H : Hp) (C : Addr) (cl : List (Str × Addr)) (fp : List Addr) : Good Γ ⟨relS scope L.sc, fbC scope⟩ (X.blk s H scope (compEnvC scope cl C X.env) fp) :=
  ⟨g.prog, g.w, g.K, g.mg, g.base, g.N, g.calm, g.room, by rw [← g.sc]; rfl, rfl⟩
theorem sc_nil {cf gs} : SC Γ L [] (evC cf gs .n) := ⟨tYes, fun X _ => pts_nil, fun σ H env st S φ Q E I f => by unfold evC at f; exact f H S φ .refl I⟩
theorem sc_one {ca : Ex} {cf gs} (h : ST Γ L a fun env s => (ev cf gs true ca env s).bind fun d s => truthS s d) : SC Γ L [a] (evC cf gs (.s ca)) := by
  obtain ⟨t, p, q⟩ := h
  exact ⟨t, fun X g => pts_one (p X g), fun σ H env st S φ Q E I f => q σ H env st S φ Q E I (by unfold evC at f; exact f)⟩
/-- the elements of one turn -/
theorem elt_turn {K : PySem.W.Frag} {Dl : Addr} {S1 : Addr → Prop} {φ1 : List Addr} {H1 : Hp} {σ : L2.St} {tt : TT} {te : TE} {cond : OEx} {elt : Ex} {cf gs} {env : Env} {S : Addr → Prop} {φ : List Addr} {H : Hp} {st st' : Sto} {db zs : List PV.D} {Nx : Hp → Prop}
    (qt : ∀ H st S φ (Q : Bool → Hp → Prop), EI K S φ H σ env → SI K S φ H st → FinB K S φ H Q (evC cf gs cond env st) → tt σ H Q)
    (qe : ∀ H st S φ Q, EI K S φ H σ env → SI K S φ H st → FinE K false S φ H Q (ev cf gs false elt env st) → te σ H Q)
    (E : EI K S φ H σ env) (A : AR K Dl S1 φ1 H1 S φ H st db) (hz : db.length + zs.length ≤ LINE)
    (hf : ((evC cf gs cond env st).bind fun t s => if t = true then (ev cf gs false elt env s).bind fun y s => .ok [y] s else .ok [] s) = .ok zs st') (hn : ∀ S' φ' H', AR K Dl S1 φ1 H1 S' φ' H' st' (db ++ zs) → Nx H') :
    tt σ H fun b H3 => if b = true then te σ H3 fun y H4 => ∃ acc, H4 Dl = some (.lst acc) ∧ acc.length < sizeLine ∧ Nx (L2.upd H4 Dl (.lst (acc ++ [y]))) else Nx H3 := by
  refine qt H st S φ _ E A.si ?_
  cases e1 : evC cf gs cond env st with
  | err => rw [e1] at hf; cases hf
  | ok t s1 =>
    simp only [e1, Out.bind] at hf
    intro H3 S3 φ3 x3 I3
    have A3 := A.go x3 I3
    have E3 := E.mono x3 A.si
    cases t with
    | false =>
      rw [if_neg Bool.false_ne_true] at hf ⊢
      cases hf
      rw [List.append_nil] at hn
      exact hn S3 φ3 H3 A3
    | true =>
      rw [if_pos rfl] at hf ⊢
      refine qe H3 s1 S3 φ3 _ E3 I3 ?_
      cases e2 : ev cf gs false elt env s1 with
      | err => rw [e2] at hf; cases hf
      | ok y s2 =>
        rw [e2] at hf
        cases hf
        intro v H4 S4 φ4 x4 I4 r4
        have A4 := A3.go x4 I4
        obtain ⟨acc, h, r⟩ := A4.acc
        refine ⟨acc, h, by rw [line_eq, r.length]; simp at hz; have : LINE = 16777216 := rfl; omega, hn S4 φ4 _ (A4.push h r r4.val)⟩
theorem sf_cp1 (Γok : CtxOk Γ) {x t i : Expr} {ifs : List Expr} {scope : Scope} {pos : Pos} {elt : Ex} {tg : Tg} {it : Src} {cond : OEx} {vs : List Nat}
    (hI : SS Γ L true t i (evI Γ.cf Γ.gs true it)) (hb : blkC Γ.m.N L.sc scope (ownOf Γ.m.N vs) = true) (hv : (ownOf Γ.m.N vs).map (·.2) = vs) (ht : tgIn vs tg = true)
    (hG : SG Γ ⟨relS scope L.sc, fbC scope⟩ t tg) (hC : SC Γ ⟨relS scope L.sc, fbC scope⟩ ifs (evC Γ.cf Γ.gs cond)) (hE : SE Γ ⟨relS scope L.sc, fbC scope⟩ false x (ev Γ.cf Γ.gs false elt))
    (hs : ∀ env v, foldedSetIterable i env v = pure v) :
    ∃ te : TE, (∀ X, Good Γ L X → PE X (.ListComp x [⟨t, i, ifs, 0⟩] scope pos) te ∧ ∀ (j : Nat) (y : Str) (py spos : Pos), Γ.m.N[j]? = some y → L.sc.names.lookup y = some .local → swapsWith (.ListComp x [⟨t, i, ifs, 0⟩] scope pos) (some (.Name y py)) spos.line X.env = pure true →
        PS X (.Assign [.Name y py] (.ListComp x [⟨t, i, ifs, 0⟩] scope pos) spos) (tAsg te (gName j))) ∧
      ∀ σ H env st S φ Q, EI Γ.K S φ H σ env → SI Γ.K S φ H st → FinF Γ.K S φ H Q (evF Γ.cf Γ.gs (.cp1 elt tg it cond vs) env st) → te σ H Q := by
  obtain ⟨wi, pI, qI⟩ := hI
  obtain ⟨g, pG, qG⟩ := hG
  obtain ⟨tt, pC, qC⟩ := hC
  obtain ⟨te, pE, qE⟩ := hE
  refine ⟨tLc wi g tt te vs, fun X gd => ⟨?_, fun j y py spos h1 h2 h3 => ?_⟩, fun σ H env st S φ Q E I f => ?_⟩
  · have := pe_lc (X := X) (pos := pos) (own := ownOf Γ.m.N vs) gd.calm (by rw [gd.N]; exact Γok.nd) (pI X gd) (blkOk_by (by rw [gd.N, gd.sc]; exact hb)) (fun s H C cl fp => pG _ (gd.blk s H C cl fp)) (fun s H C cl fp => pC _ (gd.blk s H C cl fp)) (fun s H C cl fp => pE _ (gd.blk s H C cl fp)) (hs _)
    rw [hv] at this; exact this
  · have := ps_setLc (X := X) (pos := pos) (own := ownOf Γ.m.N vs) (i := j) gd.calm (by rw [gd.N]; exact Γok.nd) (by rw [gd.N]; exact h1) (by rw [gd.sc]; exact h2) h3 (pI X gd) (blkOk_by (by rw [gd.N, gd.sc]; exact hb)) (fun s H C cl fp => pG _ (gd.blk s H C cl fp)) (fun s H C cl fp => pC _ (gd.blk s H C cl fp)) (fun s H C cl fp => pE _ (gd.blk s H C cl fp)) (hs _)
    rw [hv] at this; exact this
  · unfold evF at f
    obtain ⟨xs, s1, e1, f1⟩ := f.bind
    obtain ⟨ys, s2, e2, f2⟩ := f1.bind
    by_cases hz : ys.length ≤ LINE
    · rw [if_pos hz] at f2
      refine qI σ H env st S φ _ E I ?_
      rw [e1]
      intro J H1 S1 φ1 x1 I1 J1 Dl hD
      obtain ⟨nS, nφ⟩ := I1.fresh hD
      have A0 : AR Γ.K Dl S1 φ1 H1 S1 φ1 (L2.upd H1 Dl (.lst [])) s1 [] := ⟨.upd, I1.alloc0 hD, nS, nφ, [], upd_same, .nil⟩
      have E1 := E.mono x1 I
      refine comp_loop I1 nS J1 (.inl hD) A0 e2 (by simpa using hz) (fun d S3 φ3 H3 st3 db zs st' hd A ef hz3 v rv Nx hN => ?_) fun S3 φ3 H3 A => ?_
      · cases eb : bindT tg d (wipeE (noOwn env) vs) with
        | none => rw [eb] at ef; cases ef
        | some env1 =>
          simp only [eb] at ef
          have E3 : EI Γ.K S3 φ3 H3 (wipe σ vs) (wipeE (noOwn env) vs) := ((E1.no).wipe (noOwn_no env) vs).monoD ((noOwn_no env).wipe vs) A.stp I1 nS
          refine qG v d _ H3 _ env1 S3 φ3 st3 _ E3 A.si rv eb fun σ' hw E4 => ⟨?_, ?_⟩
          · rw [hw.1 vs ht, wipe_idem fun _ h => h]
          · exact elt_turn (fun H st S φ Q => qC σ' H env1 st S φ Q) (fun H st S φ Q => qE σ' H env1 st S φ Q) E4 A hz3 ef hN
      · obtain ⟨acc, h, r⟩ := A.acc
        rw [List.nil_append] at r
        exact f2 Dl acc H3 S3 φ3 (x1.trans (A.stp.to hD)) A.si (x1.free hD) A.ns A.nφ h r
    · rw [if_neg hz] at f2; exact False.elim f2
theorem sf_cp2 (Γok : CtxOk Γ) {x t i t1 i1 : Expr} {ifs ifs1 : List Expr} {scope : Scope} {pos : Pos} {elt : Ex} {tg tg1 : Tg} {it it1 : Src} {cond cond1 : OEx} {vs vs1 : List Nat}
    (hI : SS Γ L true t i (evI Γ.cf Γ.gs true it)) (hb : blkC Γ.m.N L.sc scope (ownOf Γ.m.N vs) = true) (hv : (ownOf Γ.m.N vs).map (·.2) = vs) (hv1 : ∀ j ∈ vs1, j ∈ vs) (ht : tgIn vs tg = true) (ht1 : tgIn vs1 tg1 = true)
    (hG : SG Γ ⟨relS scope L.sc, fbC scope⟩ t tg) (hC : SC Γ ⟨relS scope L.sc, fbC scope⟩ ifs (evC Γ.cf Γ.gs cond)) (hI1 : SS Γ ⟨relS scope L.sc, fbC scope⟩ false t1 i1 (evI Γ.cf Γ.gs false it1)) (hG1 : SG Γ ⟨relS scope L.sc, fbC scope⟩ t1 tg1)
    (hC1 : SC Γ ⟨relS scope L.sc, fbC scope⟩ ifs1 (evC Γ.cf Γ.gs cond1)) (hE : SE Γ ⟨relS scope L.sc, fbC scope⟩ false x (ev Γ.cf Γ.gs false elt))
    (hs : ∀ env v, foldedSetIterable i env v = pure v) (hs1 : ∀ env v, foldedSetIterable i1 env v = pure v) :
    ∃ te : TE, (∀ X, Good Γ L X → PE X (.ListComp x [⟨t, i, ifs, 0⟩, ⟨t1, i1, ifs1, 0⟩] scope pos) te ∧ ∀ (j : Nat) (y : Str) (py spos : Pos), Γ.m.N[j]? = some y → L.sc.names.lookup y = some .local → swapsWith (.ListComp x [⟨t, i, ifs, 0⟩, ⟨t1, i1, ifs1, 0⟩] scope pos) (some (.Name y py)) spos.line X.env = pure true →
        PS X (.Assign [.Name y py] (.ListComp x [⟨t, i, ifs, 0⟩, ⟨t1, i1, ifs1, 0⟩] scope pos) spos) (tAsg te (gName j))) ∧
      ∀ σ H env st S φ Q, EI Γ.K S φ H σ env → SI Γ.K S φ H st → FinF Γ.K S φ H Q (evF Γ.cf Γ.gs (.cp2 elt tg it cond tg1 it1 cond1 vs vs1) env st) → te σ H Q := by
  obtain ⟨wi, pI, qI⟩ := hI
  obtain ⟨g, pG, qG⟩ := hG
  obtain ⟨tt, pC, qC⟩ := hC
  obtain ⟨wi1, pI1, qI1⟩ := hI1
  obtain ⟨g1, pG1, qG1⟩ := hG1
  obtain ⟨tt1, pC1, qC1⟩ := hC1
  obtain ⟨te, pE, qE⟩ := hE
  have hvo : ∀ j ∈ vs1, j ∈ (ownOf Γ.m.N vs).map (·.2) := fun j hj => by rw [hv]; exact hv1 j hj
  refine ⟨tLc2 wi g tt wi1 g1 tt1 te vs vs1, fun X gd => ⟨?_, fun j y py spos h1 h2 h3 => ?_⟩, fun σ H env st S φ Q E I f => ?_⟩
  · have := pe_lc2 (X := X) (pos := pos) (own := ownOf Γ.m.N vs) gd.calm (by rw [gd.N]; exact Γok.nd) (pI X gd) (blkOk_by (by rw [gd.N, gd.sc]; exact hb)) hvo (fun s H C cl fp => pG _ (gd.blk s H C cl fp)) (fun s H C cl fp => pC _ (gd.blk s H C cl fp))
      (fun s H C cl fp => pI1 _ (gd.blk s H C cl fp)) (fun s H C cl fp => pG1 _ (gd.blk s H C cl fp)) (fun s H C cl fp => pC1 _ (gd.blk s H C cl fp)) (fun s H C cl fp => pE _ (gd.blk s H C cl fp)) (hs _) hs1
    rw [hv] at this; exact this
  · have := ps_setLc2 (X := X) (pos := pos) (own := ownOf Γ.m.N vs) (i := j) gd.calm (by rw [gd.N]; exact Γok.nd) (by rw [gd.N]; exact h1) (by rw [gd.sc]; exact h2) h3 (pI X gd) (blkOk_by (by rw [gd.N, gd.sc]; exact hb)) hvo (fun s H C cl fp => pG _ (gd.blk s H C cl fp)) (fun s H C cl fp => pC _ (gd.blk s H C cl fp))
      (fun s H C cl fp => pI1 _ (gd.blk s H C cl fp)) (fun s H C cl fp => pG1 _ (gd.blk s H C cl fp)) (fun s H C cl fp => pC1 _ (gd.blk s H C cl fp)) (fun s H C cl fp => pE _ (gd.blk s H C cl fp)) (hs _) hs1
    rw [hv] at this; exact this
  · unfold evF at f
    obtain ⟨xs, s1, e1, f1⟩ := f.bind
    obtain ⟨ys, s2, e2, f2⟩ := f1.bind
    by_cases hz : ys.length ≤ LINE
    · rw [if_pos hz] at f2
      refine qI σ H env st S φ _ E I ?_
      rw [e1]
      intro J H1 S1 φ1 x1 I1 J1 Dl hD
      obtain ⟨nS, nφ⟩ := I1.fresh hD
      have A0 : AR Γ.K Dl S1 φ1 H1 S1 φ1 (L2.upd H1 Dl (.lst [])) s1 [] := ⟨.upd, I1.alloc0 hD, nS, nφ, [], upd_same, .nil⟩
      have E1 := E.mono x1 I
      refine comp_loop I1 nS J1 (.inl hD) A0 e2 (by simpa using hz) (fun d S3 φ3 H3 st3 db zs st' hd A ef hz3 v rv Nx hN => ?_) fun S3 φ3 H3 A => ?_
      · cases eb : bindT tg d (wipeE (noOwn env) vs) with
        | none => rw [eb] at ef; cases ef
        | some env1 =>
          simp only [eb] at ef
          have n1 := NoOwn.bind ((noOwn_no env).wipe vs) eb
          have E3 : EI Γ.K S3 φ3 H3 (wipe σ vs) (wipeE (noOwn env) vs) := ((E1.no).wipe (noOwn_no env) vs).monoD ((noOwn_no env).wipe vs) A.stp I1 nS
          refine qG v d _ H3 _ env1 S3 φ3 st3 _ E3 A.si rv eb fun σ' hw E4 => ⟨?_, ?_⟩
          · rw [hw.1 vs ht, wipe_idem fun _ h => h]
          · refine qC σ' H3 env1 st3 S3 φ3 _ E4 A.si ?_
            cases ec : evC Γ.cf Γ.gs cond env1 st3 with
            | err => rw [ec] at ef; cases ef
            | ok tb s4 =>
              simp only [ec, Out.bind] at ef
              intro H5 S5 φ5 x5 I5
              have A5 := A.go x5 I5
              have E5 := E4.mono x5 A.si
              cases tb with
              | false =>
                rw [if_neg Bool.false_ne_true] at ef ⊢
                cases ef
                rw [List.append_nil] at hN
                exact hN S5 φ5 H5 A5
              | true =>
                rw [if_pos rfl] at ef ⊢
                refine qI1 σ' H5 env1 s4 S5 φ5 _ E5 I5 ?_
                cases ei : evI Γ.cf Γ.gs false it1 env1 s4 with
                | err => rw [ei] at ef; cases ef
                | ok ws s6 =>
                  rw [ei] at ef
                  intro J2 H6 S6 φ6 x6 I6 JJ
                  have A6 := A5.go x6 I6
                  have E6 := E5.mono x6 I5
                  refine comp_loop (da := db) I6 A6.ns JJ (.inr rfl) A6.base ef hz3 (fun d2 S7 φ7 H7 st7 db2 zs2 st7' hd2 A7 ef2 hz7 v2 rv2 Nx2 hN2 => ?_) fun S7 φ7 H7 A7 => ?_
                  · cases eb2 : bindT tg1 d2 (wipeE env1 vs1) with
                    | none => rw [eb2] at ef2; cases ef2
                    | some env2 =>
                      simp only [eb2] at ef2
                      have E7 : EI Γ.K S7 φ7 H7 (wipe σ' vs1) (wipeE env1 vs1) := (E6.wipe n1 vs1).monoD (n1.wipe vs1) A7.stp I6 A6.ns
                      refine qG1 v2 d2 _ H7 _ env2 S7 φ7 st7 _ E7 A7.si rv2 eb2 fun σ2 hw2 E8 => ⟨?_, ?_⟩
                      · rw [hw2.1 vs1 ht1, wipe_idem fun _ h => h]
                      · exact elt_turn (fun H st S φ Q => qC1 σ2 H env2 st S φ Q) (fun H st S φ Q => qE σ2 H env2 st S φ Q) E8 A7 hz7 ef2 hN2
                  · exact hN S7 φ7 H7 (A7.over (A6.stp))
      · obtain ⟨acc, h, r⟩ := A.acc
        rw [List.nil_append] at r
        exact f2 Dl acc H3 S3 φ3 (x1.trans (A.stp.to hD)) A.si (x1.free hD) A.ns A.nφ h r
    · rw [if_neg hz] at f2; exact False.elim f2
end
end PV
set_option maxRecDepth 100000
set_option maxHeartbeats 4000000
/-! All expressions. -/
namespace PV
open PySem PySem.Spec PyProof.Rows L2
section
variable {K : PySem.W.Frag} {S : Addr → Prop} {φ : List Addr} {H : Hp} {st : Sto} {a : Addr} {n : Nat} {vs : List V} {ds : List D}
/-- an object of the store changes -/
theorem Stp.chg {o : HO} (h : a ∈ φ) : Stp S φ H S φ (L2.upd H a o) :=
  ⟨fun b o' e n => by rw [L2.upd_ne (fun q : b = a => n (by rw [q]; exact h))]; exact e, fun b e => by
    by_cases q : b = a
    · rw [q, L2.upd_same]; simp
    · rw [L2.upd_ne q]; exact e, fun _ h => h, fun _ h => .inl h, [], by simp⟩
theorem SI.chg (I : SI K S φ H st) (h : φ[n]? = some a) (r : RepL K S φ H vs ds) : SI K S φ (L2.upd H a (.lst vs)) (st.set n (.lst ds)) := by
  have ha : a ∈ φ := List.mem_of_getElem? h
  have tr : ∀ {ws : List V} {es : List D}, RepL K S φ H ws es → RepL K S φ (L2.upd H a (.lst vs)) ws es := fun r => r.tr (fun b hb => L2.upd_ne (fun e => I.dis a ha (by rw [← e]; exact hb))) (fun _ q => q) ⟨[], by simp⟩
  refine ⟨fun b hb => ?_, I.dis, by simp [I.len], I.nd, fun m b es e1 e2 => ?_⟩
  · by_cases q : b = a
    · rw [q, L2.upd_same]; simp
    · rw [L2.upd_ne q]; exact I.dom b hb
  · by_cases q : n = m
    · subst q
      rw [h] at e1; cases e1
      have hn : n < st.length := by rw [← I.len]; exact (List.getElem?_eq_some_iff.mp h).1
      rw [List.getElem?_set_self hn] at e2; cases e2
      exact ⟨vs, L2.upd_same, tr r⟩
    · rw [List.getElem?_set_ne q] at e2
      obtain ⟨ws, h1, h2⟩ := I.obj m b es e1 e2
      have hne : b ≠ a := fun e => q (nd_ix I.nd h (e ▸ e1))
      exact ⟨ws, by rw [L2.upd_ne hne]; exact h1, tr h2⟩
end
section
variable {Γ : Ctx} {L : LC} {o : Bool} {e a b : Expr}
theorem folded_of {m : MC} {c : Src} {sc : Scope} {t i : Expr} (h : mI m c sc t i = true) : ∀ env v, foldedSetIterable i env v = pure v := fun env v => by
  cases i with
  | Set xs k p =>
    exfalso
    cases c with
    | seq c =>
      unfold mI at h
      cases c with
      | fz f => unfold mE at h; cases f <;> simp [mF] at h
      | alloc f => unfold mE at h; cases f <;> simp [mF] at h
      | _ => simp [mE] at h
    | _ => simp [mI] at h
  | _ => rfl
/-- the arguments of pop -/
theorem se_popL (Γok : CtxOk Γ) {i : Nat} {oe : OEx} {x : Str} {xs : List Expr} {p apos cpos : Pos} {cf gs} (h1 : Γ.m.N[i]? = some x) (h2 : visB L.sc x = true) (h3 : okN x = true) (hl : (apos.endLine == cpos.line) = true)
    (ha : (xs = [] ∧ oe = .n) ∨ ∃ y c, xs = [y] ∧ oe = .s c ∧ (∀ env r, starEach (y :: r) env = (false, eval y env) :: starEach r env) ∧ SE Γ L true y (ev cf gs true c)) :
    SE Γ L o (.Call (.Attribute (.Name x p) ("pop" : Str) apos) xs [] cpos) (ev cf gs o (.popL i oe)) := by
  obtain ⟨n1, n2, _⟩ := okN_of h3
  have pvar : ∀ X, Good Γ L X → PE X (.Name x p) (tVar i) := fun X g => pe_var (by rw [g.N]; exact h1) (by rw [g.sc]; exact vis_of h2) n1 n2
  rcases ha with ⟨rfl, rfl⟩ | ⟨y, c, rfl, rfl, hst, t, p1, q1⟩
  · refine ⟨tBM0 Γ.K "list" rPop (tVar i), fun X g => by
      rw [← g.K]
      exact pe_bm0 PySem.F.plainAttrs_list PySem.F.slot_list_pop PySem.F.type_list_pop mt_pop (pvar X g) rfl hl, fun σ H env st S φ Q E I f => ?_⟩
    unfold ev at f
    split at f
    · rename_i n he
      simp only [evO, Out.bind] at f
      obtain ⟨v, e1, r⟩ := E.val i _ he
      cases r with
      | @loc a n hφ =>
        split at f
        · rename_i ds hs
          obtain ⟨vs, hv, rv⟩ := I.obj n a ds hφ hs
          split at f
          · rename_i d hd
            obtain ⟨w, hw, rw'⟩ := rv.get hd
            have hm : a ∈ φ := List.mem_of_getElem? hφ
            have I2 := I.chg hφ rv.dropLast
            refine ⟨_, e1, .inl ⟨rfl, vs, .inl (.inl hv)⟩, a, vs, w, rfl, rfl, hv, by rw [rv.length]; exact hw, ?_⟩
            exact f w _ S φ (Stp.chg hm) I2 (.inl (rw'.tr (fun b hb => upd_ne (fun e => I.dis a hm (by rw [← e]; exact hb))) (fun _ q => q) ⟨[], by simp⟩))
          · exact False.elim f
        · exact False.elim f
    · exact False.elim f
  · refine ⟨tBM Γ.K "list" rPopAt (tVar i) (tCons t tNil), fun X g => by
      rw [← g.K]
      exact pe_bm PySem.F.plainAttrs_list PySem.F.slot_list_pop PySem.F.type_list_pop mt_popAt (pvar X g) (pa_cons (p1 X g) pa_nil (hst _ _)) rfl (by rw [hst]; rfl) hl (hst _ _) rfl, fun σ H env st S φ Q E I f => ?_⟩
    unfold ev at f
    split at f
    · rename_i n he
      obtain ⟨v, e1, r⟩ := E.val i _ he
      obtain ⟨ko, s1, ek, f1⟩ := f.bind
      unfold evO at ek
      cases e2 : ev cf gs true c env st with
      | err => rw [e2] at ek; cases ek
      | ok dk s2 =>
        simp only [e2, Out.bind] at ek
        cases r with
        | @loc a n hφ =>
          obtain ⟨vs0, hv0, rv0⟩ : ∃ vs, H a = some (.lst vs) ∧ True := by
            have hn : n < st.length := by rw [← I.len]; exact (List.getElem?_eq_some_iff.mp hφ).1
            cases e : st[n] with
            | lst ds =>
              obtain ⟨vs, hv, _⟩ := I.obj n a ds hφ (by rw [List.getElem?_eq_getElem hn, e])
              exact ⟨vs, hv, trivial⟩
          refine ⟨_, e1, .inl ⟨rfl, vs0, .inl (.inl hv0)⟩, ?_⟩
          refine SE.use q1 E I e2 fun w H1 S1 φ1 x1 E1 I1 r1 => ?_
          split at ek
          · rename_i k
            cases ek
            have ew := r1.rd0.int
            subst ew
            simp only at f1
            have hφ1 : φ1[n]? = some a := by
              obtain ⟨ψ, e, _⟩ := x1.phi
              rw [e, List.getElem?_append_left (List.getElem?_eq_some_iff.mp hφ).1]; exact hφ
            split at f1
            · rename_i ds hs
              obtain ⟨vs, hv, rv⟩ := I1.obj n a ds hφ1 hs
              by_cases hk : -9223372036854775808 ≤ k ∧ k < 9223372036854775808
              rotate_left
              · rw [if_neg hk] at f1; exact False.elim f1
              rw [if_pos hk] at f1
              split at f1
              · rename_i j hj
                split at f1
                · rename_i d hd
                  obtain ⟨z, hw, rw'⟩ := rv.get hd
                  have hm : a ∈ φ1 := List.mem_of_getElem? hφ1
                  have I2 := I1.chg hφ1 (rv.eraseIdx j)
                  obtain ⟨q1, q2, q3, q4⟩ := ixN_seq hj
                  refine ⟨a, vs, k, j, z, rfl, rfl, hv, hk.1, hk.2, by rw [rv.length]; exact q1, hw, ?_⟩
                  exact f1 z _ S1 φ1 (x1.trans (Stp.chg hm)) I2 (.inl (rw'.tr (fun b hb => upd_ne (fun e => I1.dis a hm (by rw [← e]; exact hb))) (fun _ q => q) ⟨[], by simp⟩))
                · exact False.elim f1
              · exact False.elim f1
            · exact False.elim f1
          · cases ek
    · exact False.elim f

theorem se1_of {c : Ex} (ht : SE Γ L true e (ev Γ.cf Γ.gs true c)) (hf : SE Γ L false e (ev Γ.cf Γ.gs false c)) (h : mE Γ.m c L.sc e = true) : SE1 Γ L e c Γ.cf Γ.gs := by
  have plain : ev Γ.cf Γ.gs true c = ev Γ.cf Γ.gs false c → SE1 Γ L e c Γ.cf Γ.gs := fun he => by
    obtain ⟨t, p, q⟩ := hf
    refine ⟨t, p, fun σ H env st S φ Q E I f => q σ H env st S φ Q E I ?_⟩
    rw [he] at f
    cases e1 : ev Γ.cf Γ.gs false c env st with
    | err => rw [e1] at f; exact f
    | ok d s1 => rw [e1] at f; exact fun v H' S' φ' x I' r => f v H' S' φ' x I' (.inl r.val) fun _ => r.val
  cases c with
  | var i =>
    unfold mE at h
    split at h
    · rename_i x pos
      simp only [Bool.and_eq_true, decide_eq_true_eq] at h
      obtain ⟨⟨h1, h2⟩, h3⟩ := h
      obtain ⟨n1, n2, _⟩ := okN_of h3
      refine ⟨tVar i, fun X g => pe_var (by rw [g.N]; exact h1) (by rw [g.sc]; exact vis_of h2) n1 n2, fun σ H env st S φ Q E I f => ?_⟩
      unfold ev at f
      cases he : env[i]? with
      | none => rw [he] at f; exact False.elim f
      | some sv =>
        cases sv with
        | none => rw [he] at f; exact False.elim f
        | some sv =>
          cases sv with
          | val d =>
            rw [he] at f
            obtain ⟨v, e1, r⟩ := E.val i d he
            exact ⟨v, e1, f v H S φ .refl I (.inl r) fun _ => r⟩
          | own ds =>
            rw [he] at f
            obtain ⟨a, vs, e1, e2, _, e4, r⟩ := E.own i ds he
            refine ⟨_, e1, f _ H S φ .refl I (.inr ⟨rfl, a, vs, ds, rfl, rfl, e4, e2, r⟩) fun hb => ?_⟩
            simp [isOwn, he] at hb
    · cases h
  | bop and es =>
    obtain ⟨t, p, q⟩ := ht
    refine ⟨t, p, fun σ H env st S φ Q E I f => q σ H env st S φ Q E I ?_⟩
    cases e1 : ev Γ.cf Γ.gs true (.bop and es) env st with
    | err => rw [e1] at f; exact f
    | ok d s1 => rw [e1] at f; exact fun v H' S' φ' x I' r => f v H' S' φ' x I' r fun hb => by simp [isOwn] at hb
  | _ => exact plain (by funext env s; simp only [ev])
mutual
theorem sE (Γok : CtxOk Γ) : ∀ (c : Ex) (L : LC) (o : Bool) (e : Expr), mE Γ.m c L.sc e = true → SE Γ L o e (ev Γ.cf Γ.gs o c)
  | .var i, L, o, e, h => se_var _ _ h
  | .int i, L, o, e, h => by
    unfold mE at h
    split at h
    · cases of_decide_eq_true h
      exact se_const (d := .int i) (fun X => pe_int) (fun _ _ => by unfold ev; rfl) fun _ _ _ _ => .int i
    · cases h
  | .str x, L, o, e, h => by
    unfold mE at h
    split at h
    · cases of_decide_eq_true h
      exact se_const (d := .str x) (fun X => pe_str) (fun _ _ => by unfold ev; rfl) fun _ _ _ _ => .str x
    · cases h
  | .bl b, L, o, e, h => by
    unfold mE at h
    split at h
    · cases of_decide_eq_true h
      exact se_const (d := .bl b) (fun X => pe_bl) (fun _ _ => by unfold ev; rfl) fun _ _ _ _ => .bl b
    · cases h
  | .non, L, o, e, h => by
    unfold mE at h
    split at h
    · exact se_const (d := .non) (fun X => pe_non) (fun _ _ => by unfold ev; rfl) fun _ _ _ _ => .non
    · cases h
  | .gl k, L, o, e, h => se_gl Γok h
  | .tup es, L, o, e, h => by
    unfold mE at h
    split at h
    · simp only [Bool.and_eq_true, decide_eq_true_eq] at h
      exact se_tup h.2 (sEs Γok es L false _ h.1)
    · cases h
  | .fz f, L, o, e, h => by
    unfold mE at h
    exact se_fz (sF Γok f L e h)
  | .alloc f, L, o, e, h => by
    unfold mE at h
    exact se_alloc (sF Γok f L e h)
  | .bin op a b, L, o, e, h => by
    unfold mE at h
    split at h
    · simp only [Bool.and_eq_true, decide_eq_true_eq] at h
      obtain ⟨⟨h1, h2⟩, h3⟩ := h
      subst h1
      exact se_bin (sE Γok a L true _ h2) (sE Γok b L true _ h3)
    · cases h
  | .neg a, L, o, e, h => by
    unfold mE at h
    split at h
    · exact se_neg (sE Γok a L true _ h)
    · cases h
  | .not a, L, o, e, h => by
    unfold mE at h
    split at h
    · exact se_not (sE Γok a L true _ h)
    · cases h
  | .cmp op a b, L, o, e, h => by
    unfold mE at h
    split at h
    · simp only [Bool.and_eq_true, decide_eq_true_eq] at h
      obtain ⟨⟨h1, h2⟩, h3⟩ := h
      subst h1
      obtain ⟨t, p, q⟩ := sx_cmp (o := o) (op := op) (sE Γok a L true _ h2) (sE Γok b L true _ h3)
      exact ⟨t, fun X g => (p X g).1, q⟩
    · cases h
  | .chn op op' a b c, L, o, e, h => by
    unfold mE at h
    split at h
    · simp only [Bool.and_eq_true, decide_eq_true_eq] at h
      obtain ⟨⟨⟨⟨h1, h2⟩, h3⟩, h4⟩, h5⟩ := h
      subst h1 h2
      obtain ⟨t, p, q⟩ := sx_chn (o := o) (op := op) (op' := op') (sE Γok a L true _ h3) (sE Γok b L true _ h4) (sE Γok c L true _ h5)
      exact ⟨t, fun X g => (p X g).1, q⟩
    · cases h
  | .bop and es, L, o, e, h => by
    unfold mE at h
    split at h
    · rename_i op xs pos
      simp only [Bool.and_eq_true, decide_eq_true_eq] at h
      obtain ⟨h1, h2⟩ := h
      subst h1
      have := sBop Γok and es L o xs pos h2
      rw [show ev Γ.cf Γ.gs o (.bop and es) = evB Γ.cf Γ.gs o and es by funext env s; simp only [ev]]
      exact this
    · cases h
  | .ite c a b, L, o, e, h => by
    unfold mE at h
    split at h
    · simp only [Bool.and_eq_true] at h
      obtain ⟨⟨⟨h1, h2⟩, h3⟩, h4⟩ := h
      exact se_ite (sT Γok c L _ h1 h2) (sE Γok a L false _ h3) (sE Γok b L false _ h4)
    · cases h
  | .idx a i, L, o, e, h => by
    unfold mE at h
    split at h
    · simp only [Bool.and_eq_true] at h
      exact se_idx (notSlice_of h.2) (sE Γok a L true _ h.1) (sE Γok i L true _ h.2)
    · cases h
  | .slc a lo hi, L, o, e, h => by
    unfold mE at h
    split at h
    · simp only [Bool.and_eq_true] at h
      exact se_slc (sE Γok a L true _ h.1.1) (sO Γok lo L _ h.1.2) (sO Γok hi L _ h.2)
    · cases h
  | .rev a, L, o, e, h => by
    unfold mE at h
    split at h
    · exact se_rev (sE Γok a L true _ h)
    · cases h
  | .call f .nil, L, o, e, h => by
    unfold mE at h
    split at h
    · rename_i x p xs pos
      simp only [Bool.and_eq_true, decide_eq_true_eq] at h
      obtain ⟨⟨⟨h1, h2⟩, h3⟩, h4⟩ := h
      cases xs with
      | nil => exact se_call0 Γok h1 h2 h3
      | cons y ys => simp [mEs] at h4
    · cases h
  | .call f (.c e1 es), L, o, e, h => by
    unfold mE at h
    split at h
    · rename_i x p xs pos
      simp only [Bool.and_eq_true, decide_eq_true_eq] at h
      obtain ⟨⟨⟨h1, h2⟩, h3⟩, h4⟩ := h
      refine se_call Γok ?_ h1 h2 h3 (stars_of h4) (sAs Γok (.c e1 es) L _ h4)
      intro z; subst z; simp [mEs] at h4
    · cases h
  | .blt b es, L, o, e, h => by
    unfold mE at h
    split at h
    · rename_i x p y ys pos
      simp only [Bool.and_eq_true, decide_eq_true_eq] at h
      obtain ⟨⟨⟨⟨h1, h2⟩, h3⟩, h4⟩, h5⟩ := h
      exact se_blt Γok h1 h2 h3 h4 (stars_of h5) (sEs Γok es L true _ h5)
    · cases h
  | .isi a t, L, o, e, h => by
    unfold mE at h
    split at h
    · rename_i x p y z pz pos
      simp only [Bool.and_eq_true, decide_eq_true_eq] at h
      obtain ⟨⟨⟨⟨⟨⟨⟨⟨h1, h2⟩, h3⟩, h4⟩, h5⟩, h6⟩, h7⟩, h8⟩, h9⟩ := h
      subst h1
      exact se_isi Γok h2 h3 h5 h6 h7 h8 (fun env r => star_of h9) (sE Γok a L true _ h9)
    · cases h
  | .popL i .n, L, o, e, h => by
    unfold mE at h
    split at h
    · rename_i x p a apos xs cpos
      simp only [Bool.and_eq_true, decide_eq_true_eq] at h
      obtain ⟨⟨⟨⟨⟨h1, h2⟩, h3⟩, h4⟩, h5⟩, h6⟩ := h
      subst h4
      refine se_popL Γok h1 h2 h3 h5 ?_
      cases xs with
      | nil => exact .inl ⟨rfl, rfl⟩
      | cons y ys =>
        cases ys with
        | nil => simp [mO] at h6
        | cons z zs => simp at h6
    · cases h
  | .popL i (.s c), L, o, e, h => by
    unfold mE at h
    split at h
    · rename_i x p a apos xs cpos
      simp only [Bool.and_eq_true, decide_eq_true_eq] at h
      obtain ⟨⟨⟨⟨⟨h1, h2⟩, h3⟩, h4⟩, h5⟩, h6⟩ := h
      subst h4
      refine se_popL Γok h1 h2 h3 h5 ?_
      cases xs with
      | nil => simp [mO] at h6
      | cons y ys =>
        cases ys with
        | nil =>
          have h7 : mE Γ.m c L.sc y = true := by simpa [mO] using h6
          exact .inr ⟨y, c, rfl, rfl, fun env r => star_of h7, sE Γok c L true _ h7⟩
        | cons z zs => simp at h6
    · cases h
termination_by c => 2 * sizeOf c
decreasing_by all_goals first | (simp_wf; omega) | (simp_wf; done)
theorem sT (Γok : CtxOk Γ) : ∀ (c : Ex) (L : LC) (e : Expr), mE Γ.m c L.sc e = true → tstB c = true → ST Γ L e fun env s => (ev Γ.cf Γ.gs true c env s).bind fun d s => truthS s d
  | .var i, L, e, h, _ => by
    refine st_of ?_ (sE Γok (.var i) L true e h)
    unfold mE at h; split at h
    · exact fun _ _ => rfl
    · cases h
  | .int i, L, e, h, _ => by
    refine st_of ?_ (sE Γok (.int i) L true e h)
    unfold mE at h; split at h
    · exact fun _ _ => rfl
    · cases h
  | .str i, L, e, h, _ => by
    refine st_of ?_ (sE Γok (.str i) L true e h)
    unfold mE at h; split at h
    · exact fun _ _ => rfl
    · cases h
  | .bl i, L, e, h, _ => by
    refine st_of ?_ (sE Γok (.bl i) L true e h)
    unfold mE at h; split at h
    · exact fun _ _ => rfl
    · cases h
  | .non, L, e, h, _ => by
    refine st_of ?_ (sE Γok .non L true e h)
    unfold mE at h; split at h
    · exact fun _ _ => rfl
    · cases h
  | .gl k, L, e, h, _ => by
    refine st_of ?_ (sE Γok (.gl k) L true e h)
    unfold mE at h; split at h
    · exact fun _ _ => rfl
    · cases h
  | .tup es, L, e, h, t => by cases t
  | .fz f, L, e, h, t => by cases t
  | .alloc f, L, e, h, t => by cases t
  | .bin op a b, L, e, h, _ => by
    refine st_of ?_ (sE Γok (.bin op a b) L true e h)
    unfold mE at h; split at h
    · exact fun _ _ => rfl
    · cases h
  | .neg a, L, e, h, _ => by
    refine st_of ?_ (sE Γok (.neg a) L true e h)
    unfold mE at h; split at h
    · exact fun _ _ => rfl
    · cases h
  | .not a, L, e, h, t => by
    unfold mE at h
    split at h
    · exact st_not (sT Γok a L _ h t)
    · cases h
  | .cmp op a b, L, e, h, _ => by
    unfold mE at h
    split at h
    · simp only [Bool.and_eq_true, decide_eq_true_eq] at h
      obtain ⟨⟨h1, h2⟩, h3⟩ := h
      subst h1
      obtain ⟨t, p, q⟩ := sx_cmp (o := true) (op := op) (sE Γok a L true _ h2) (sE Γok b L true _ h3)
      exact ⟨tTest t, fun X g => (p X g).2, fun σ H env st S φ Q E I f => st_bl (fun _ _ _ _ h => ev_cmp_bl h) q E I f⟩
    · cases h
  | .chn op op' a b c, L, e, h, _ => by
    unfold mE at h
    split at h
    · simp only [Bool.and_eq_true, decide_eq_true_eq] at h
      obtain ⟨⟨⟨⟨h1, h2⟩, h3⟩, h4⟩, h5⟩ := h
      subst h1 h2
      obtain ⟨t, p, q⟩ := sx_chn (o := true) (op := op) (op' := op') (sE Γok a L true _ h3) (sE Γok b L true _ h4) (sE Γok c L true _ h5)
      exact ⟨tTest t, fun X g => (p X g).2, fun σ H env st S φ Q E I f => st_bl (fun _ _ _ _ h => ev_chn_bl h) q E I f⟩
    · cases h
  | .bop and es, L, e, h, t => by
    unfold mE at h
    split at h
    · rename_i op xs pos
      simp only [Bool.and_eq_true, decide_eq_true_eq] at h
      obtain ⟨h1, h2⟩ := h
      subst h1
      have := (sBopT Γok and es L xs pos h2 t).st
      simp only [ev]
      exact this
    · cases h
  | .ite c a b, L, e, h, t => by cases t
  | .idx a i, L, e, h, _ => by
    refine st_of ?_ (sE Γok (.idx a i) L true e h)
    unfold mE at h; split at h
    · exact fun _ _ => rfl
    · cases h
  | .slc a lo hi, L, e, h, _ => by
    refine st_of ?_ (sE Γok (.slc a lo hi) L true e h)
    unfold mE at h; split at h
    · exact fun _ _ => rfl
    · cases h
  | .rev a, L, e, h, _ => by
    refine st_of ?_ (sE Γok (.rev a) L true e h)
    unfold mE at h; split at h
    · exact fun _ _ => rfl
    · cases h
  | .call f es, L, e, h, _ => by
    refine st_of ?_ (sE Γok (.call f es) L true e h)
    unfold mE at h; split at h
    · exact fun _ _ => rfl
    · cases h
  | .blt f es, L, e, h, _ => by
    refine st_of ?_ (sE Γok (.blt f es) L true e h)
    unfold mE at h; split at h
    · exact fun _ _ => rfl
    · cases h
  | .isi f es, L, e, h, _ => by
    refine st_of ?_ (sE Γok (.isi f es) L true e h)
    unfold mE at h; split at h
    · exact fun _ _ => rfl
    · cases h
  | .popL f es, L, e, h, _ => by
    refine st_of ?_ (sE Γok (.popL f es) L true e h)
    unfold mE at h; split at h
    · exact fun _ _ => rfl
    · cases h
termination_by c => 2 * sizeOf c + 1
decreasing_by all_goals first | (simp_wf; omega) | (simp_wf; done)
theorem sEs (Γok : CtxOk Γ) : ∀ (cs : Exs) (L : LC) (o : Bool) (es : List Expr), mEs Γ.m cs L.sc es = true → SL Γ L o es (evL Γ.cf Γ.gs o cs)
  | .nil, L, o, es, h => by
    unfold mEs at h
    split at h
    · exact sl_nil
    · cases h
  | .c c cs, L, o, es, h => by
    unfold mEs at h
    split at h
    · simp only [Bool.and_eq_true] at h
      exact sl_cons (fun env => star_of h.1) (sE Γok c L o _ h.1) (sEs Γok cs L o _ h.2)
    · cases h
termination_by c => 2 * sizeOf c
decreasing_by all_goals first | (simp_wf; omega) | (simp_wf; done)
theorem sAs (Γok : CtxOk Γ) : ∀ (cs : Exs) (L : LC) (es : List Expr), mEs Γ.m cs L.sc es = true → SA Γ L es cs Γ.cf Γ.gs
  | .nil, L, es, h => by
    unfold mEs at h
    split at h
    · exact sa_nil
    · cases h
  | .c c cs, L, es, h => by
    unfold mEs at h
    split at h
    · simp only [Bool.and_eq_true] at h
      exact sa_cons (fun env => star_of h.1) (se1_of (sE Γok c L true _ h.1) (sE Γok c L false _ h.1) h.1) (sAs Γok cs L _ h.2)
    · cases h
termination_by c => 2 * sizeOf c
decreasing_by all_goals first | (simp_wf; omega) | (simp_wf; done)
theorem sBop (Γok : CtxOk Γ) (and : Bool) : ∀ (cs : Exs) (L : LC) (o : Bool) (es : List Expr) (pos : Pos), mEs Γ.m cs L.sc es = true → SE Γ L o (.BoolOp (bopOf and) es pos) (evB Γ.cf Γ.gs o and cs)
  | .nil, L, o, es, pos, h => ⟨fun _ _ _ => False, fun X _ => ⟨fun _ _ _ _ _ _ q => q.elim⟩, fun σ H env st S φ Q E I f => by unfold evB at f; exact f⟩
  | .c c .nil, L, o, es, pos, h => by
    unfold mEs at h
    split at h
    · rename_i x xs
      simp only [Bool.and_eq_true] at h
      have h2 := h.2
      unfold mEs at h2
      split at h2
      · exact se_bop1 (sE Γok c L o _ h.1)
      · cases h2
    · cases h
  | .c c (.c c' cs), L, o, es, pos, h => by
    unfold mEs at h
    split at h
    · rename_i x xs
      simp only [Bool.and_eq_true] at h
      have h2 := h.2
      have ih := sBop Γok and (.c c' cs) L o xs pos h2
      unfold mEs at h2
      split at h2
      · exact se_bopc (sE Γok c L o _ h.1) ih
      · cases h2
    · cases h
termination_by c => 2 * sizeOf c
decreasing_by all_goals first | (simp_wf; omega) | (simp_wf; done)
theorem sBopT (Γok : CtxOk Γ) (and : Bool) : ∀ (cs : Exs) (L : LC) (es : List Expr) (pos : Pos), mEs Γ.m cs L.sc es = true → tstsB cs = true → SW Γ L (.BoolOp (bopOf and) es pos) fun env s => (evB Γ.cf Γ.gs true and cs env s).bind fun d s => truthS s d
  | .nil, L, es, pos, h, _ => ⟨fun _ _ _ => False, fun X _ => ⟨fun _ _ _ _ _ _ _ q => q.elim⟩, fun σ H env st S φ Q E I f => by unfold evB at f; exact f⟩
  | .c c .nil, L, es, pos, h, t => by
    have t' := Bool.and_eq_true_iff.mp (show (tstB c && tstsB .nil) = true from t)
    unfold mEs at h
    split at h
    · rename_i x xs
      simp only [Bool.and_eq_true] at h
      have h2 := h.2
      unfold mEs at h2
      split at h2
      · exact sw_bop1 (sT Γok c L _ h.1 t'.1)
      · cases h2
    · cases h
  | .c c (.c c' cs), L, es, pos, h, t => by
    have t' := Bool.and_eq_true_iff.mp (show (tstB c && tstsB (.c c' cs)) = true from t)
    unfold mEs at h
    split at h
    · rename_i x xs
      simp only [Bool.and_eq_true] at h
      have h2 := h.2
      have ih := sBopT Γok and (.c c' cs) L xs pos h2 t'.2
      unfold mEs at h2
      split at h2
      · exact sw_bopc (sT Γok c L _ h.1 t'.1) ih
      · cases h2
    · cases h
termination_by c => 2 * sizeOf c
decreasing_by all_goals first | (simp_wf; omega) | (simp_wf; done)
theorem sO (Γok : CtxOk Γ) : ∀ (c : OEx) (L : LC) (e : Option Expr), mO Γ.m c L.sc e = true → SO' Γ L e (evO Γ.cf Γ.gs c)
  | .n, L, e, h => by
    unfold mO at h
    split at h
    · exact so_none
    · cases h
  | .s c, L, e, h => by
    unfold mO at h
    split at h
    · exact so_some (sE Γok c L true _ h)
    · cases h
termination_by c => 2 * sizeOf c
decreasing_by all_goals first | (simp_wf; omega) | (simp_wf; done)
theorem sC (Γok : CtxOk Γ) : ∀ (c : OEx) (L : LC) (e : List Expr), mC Γ.m c L.sc e = true → SC Γ L e (evC Γ.cf Γ.gs c)
  | .n, L, e, h => by
    unfold mC at h
    split at h
    · exact sc_nil
    · cases h
  | .s c, L, e, h => by
    unfold mC at h
    split at h
    · simp only [Bool.and_eq_true] at h
      exact sc_one (sT Γok c L _ h.1 h.2)
    · cases h
termination_by c => 2 * sizeOf c
decreasing_by all_goals first | (simp_wf; omega) | (simp_wf; done)
theorem sF (Γok : CtxOk Γ) : ∀ (c : Fx) (L : LC) (e : Expr), mF Γ.m c L.sc e = true → SF Γ L e (evF Γ.cf Γ.gs c)
  | .dsp es, L, e, h => by
    unfold mF at h
    split at h
    · simp only [Bool.and_eq_true, decide_eq_true_eq] at h
      exact sf_dsp h.2 (sEs Γok es L false _ h.1)
    · cases h
  | .cp1 elt tg it cond vs, L, e, h => by
    unfold mF at h
    split at h
    · rename_i x t i ifs a scope pos
      simp only [Bool.and_eq_true, decide_eq_true_eq] at h
      obtain ⟨⟨⟨⟨⟨⟨⟨h1, h2⟩, h3⟩, h4⟩, h5⟩, h6⟩, h7⟩, h8⟩ := h
      subst h1
      obtain ⟨te, p, q⟩ := sf_cp1 (pos := pos) Γok (sI Γok it L true t i h2) h3 h4 h5 (sg_of (L := ⟨relS scope L.sc, fbC scope⟩) Γok h6) (sC Γok cond ⟨relS scope L.sc, fbC scope⟩ ifs h7) (sE Γok elt ⟨relS scope L.sc, fbC scope⟩ false x h8) (folded_of h2)
      exact ⟨te, fun X g => (p X g).1, q⟩
    · cases h
  | .cp2 elt tg it cond tg1 it1 cond1 vs vs1, L, e, h => by
    unfold mF at h
    split at h
    · rename_i x t i ifs a t1 i1 ifs1 a1 scope pos
      simp only [Bool.and_eq_true, decide_eq_true_eq] at h
      obtain ⟨⟨⟨⟨⟨⟨⟨⟨⟨⟨⟨⟨⟨h1, h1'⟩, h2⟩, h3⟩, h4⟩, h5⟩, h6⟩, h7⟩, h8⟩, h9⟩, h10⟩, h11⟩, h12⟩, h13⟩ := h
      subst h1 h1'
      have hv1 : ∀ j ∈ vs1, j ∈ vs := fun j hj => by
        have := List.all_eq_true.mp h5 j hj
        simpa using this
      obtain ⟨te, p, q⟩ := sf_cp2 (pos := pos) Γok (sI Γok it L true t i h2) h3 h4 hv1 h6 h7 (sg_of (L := ⟨relS scope L.sc, fbC scope⟩) Γok h8) (sC Γok cond ⟨relS scope L.sc, fbC scope⟩ ifs h9) (sI Γok it1 ⟨relS scope L.sc, fbC scope⟩ false t1 i1 h10)
        (sg_of (L := ⟨relS scope L.sc, fbC scope⟩) Γok h11) (sC Γok cond1 ⟨relS scope L.sc, fbC scope⟩ ifs1 h12) (sE Γok elt ⟨relS scope L.sc, fbC scope⟩ false x h13) (folded_of h2) (folded_of h10)
      exact ⟨te, fun X g => (p X g).1, q⟩
    · cases h
  | .lof a, L, e, h => by
    unfold mF at h
    split at h
    · simp only [Bool.and_eq_true, decide_eq_true_eq] at h
      obtain ⟨⟨⟨⟨h1, h2⟩, h3⟩, h4⟩, h5⟩ := h
      exact sf_lof Γok h1 h2 h3 h4 (fun env r => star_of h5) (sE Γok a L true _ h5)
    · cases h
termination_by c => 2 * sizeOf c
decreasing_by all_goals first | (simp_wf; omega) | (simp_wf; done)
theorem sI (Γok : CtxOk Γ) : ∀ (c : Src) (L : LC) (o : Bool) (t e : Expr), mI Γ.m c L.sc t e = true → SS Γ L o t e (evI Γ.cf Γ.gs o c)
  | .seq a, L, o, t, e, h => by
    unfold mI at h
    exact ss_seq (sE Γok a L o _ h)
  | .rg1 a, L, o, t, e, h => by
    unfold mI at h
    split at h
    · simp only [Bool.and_eq_true, decide_eq_true_eq] at h
      obtain ⟨⟨⟨⟨h1, h2⟩, h3⟩, h4⟩, h5⟩ := h
      exact ss_rg1 Γok h1 h2 h3 (fun env r => star_of h5) (sE Γok a L true _ h5)
    · cases h
  | .rg2 a b, L, o, t, e, h => by
    unfold mI at h
    split at h
    · simp only [Bool.and_eq_true, decide_eq_true_eq] at h
      obtain ⟨⟨⟨⟨⟨h1, h2⟩, h3⟩, h4⟩, h5⟩, h6⟩ := h
      exact ss_rg2 Γok h1 h2 h3 (fun env r => star_of h5) (fun env r => star_of h6) (sE Γok a L true _ h5) (sE Γok b L true _ h6)
    · cases h
  | .rg3 a b c, L, o, t, e, h => ⟨fun _ _ _ => False, fun X _ => ⟨fun _ _ _ _ _ _ q => q.elim⟩, fun σ H env st S φ R E I f => by
      unfold evI at f
      obtain ⟨d, s1, e1, f1⟩ := f.bind
      obtain ⟨d2, s2, e2, f2⟩ := f1.bind
      obtain ⟨d3, s3, e3, f3⟩ := f2.bind
      exact False.elim f3⟩
  | .enm a, L, o, t, e, h => by
    unfold mI at h
    split at h
    · simp only [Bool.and_eq_true, decide_eq_true_eq] at h
      obtain ⟨⟨⟨⟨⟨h0, h1⟩, h2⟩, h3⟩, h4⟩, h5⟩ := h
      cases t with
      | Tuple elts kk tpos => exact ss_enm Γok h1 h2 h3 (fun env r => star_of h5) (sE Γok a L o _ h5)
      | _ => cases h0
    · cases h
  | .zip a b, L, o, t, e, h => by
    unfold mI at h
    split at h
    · simp only [Bool.and_eq_true, decide_eq_true_eq] at h
      obtain ⟨⟨⟨⟨⟨⟨h0, h1⟩, h2⟩, h3⟩, h4⟩, h5⟩, h6⟩ := h
      cases t with
      | Tuple elts kk tpos => exact ss_zip Γok h1 h2 h3 (fun env r => star_of h5) (fun env r => star_of h6) (sE Γok a L o _ h5) (sE Γok b L o _ h6)
      | _ => cases h0
    · cases h
termination_by c => 2 * sizeOf c
decreasing_by all_goals first | (simp_wf; omega) | (simp_wf; done)
end
end
end PV
set_option maxRecDepth 100000
set_option maxHeartbeats 4000000
/-! Statements. -/
namespace PV
open PySem PySem.Spec PyProof.Rows L2
/-- a def's entry -/
structure Ent where
  S : Addr → Prop
  φ : List Addr
  H : Hp
structure KP (S : Addr → Prop) (φ : List Addr) (H : Hp) (S' : Addr → Prop) (φ' : List Addr) (H' : Hp) : Prop where
  sub : ∀ a, S a → S' a
  same : ∀ a, S a → H' a = H a
  pre : ∃ ψ, φ' = φ ++ ψ
structure FI (K : PySem.W.Frag) (E0 : Ent) (S : Addr → Prop) (φ : List Addr) (H : Hp) (σ : L2.St) (env : Env) (st : Sto) : Prop where
  ei : EI K S φ H σ env
  si : SI K S φ H st
  ent : Stp E0.S E0.φ E0.H S φ H
  own : ∀ (i : Nat) ds a, env[i]? = some (some (.own ds)) → σ[i]? = some (some (.ref a)) → E0.H a = none
section
variable {K : PySem.W.Frag} {E0 : Ent} {S S' S2 : Addr → Prop} {φ φ' φ2 : List Addr} {H H' H2 : Hp} {σ : L2.St} {env : Env} {st st' : Sto}
theorem KP.refl : KP S φ H S φ H := ⟨fun _ h => h, fun _ _ => rfl, [], by simp⟩
theorem KP.trans (x : KP S φ H S' φ' H') (y : KP S' φ' H' S2 φ2 H2) : KP S φ H S2 φ2 H2 :=
  ⟨fun a h => y.sub a (x.sub a h), fun a h => (y.same a (x.sub a h)).trans (x.same a h), by
    obtain ⟨ψ, e⟩ := x.pre
    obtain ⟨ψ2, e2⟩ := y.pre
    exact ⟨ψ ++ ψ2, by rw [e2, e, List.append_assoc]⟩⟩
theorem Stp.kp (x : Stp S φ H S' φ' H') (I : SI K S φ H st) : KP S φ H S' φ' H' := ⟨x.sub, x.same I.dom I.dis, let ⟨ψ, e, _⟩ := x.phi; ⟨ψ, e⟩⟩
theorem FI.go (F : FI K E0 S φ H σ env st) (x : Stp S φ H S' φ' H') (I : SI K S' φ' H' st') : FI K E0 S' φ' H' σ env st' :=
  ⟨F.ei.mono x F.si, I, F.ent.trans x, F.own⟩
def FinX (K : PySem.W.Frag) (E0 : Ent) (S : Addr → Prop) (φ : List Addr) (H : Hp) (Dn : Ends) : Out Flow → Prop
  | .ok (.nx env') st' => ∀ σ' H' S' φ', KP S φ H S' φ' H' → FI K E0 S' φ' H' σ' env' st' → Dn.nx σ' H'
  | .ok (.ct env') st' => ∀ σ' H' S' φ', KP S φ H S' φ' H' → FI K E0 S' φ' H' σ' env' st' → Dn.ct σ' H'
  | .ok (.bk env') st' => ∀ σ' H' S' φ', KP S φ H S' φ' H' → FI K E0 S' φ' H' σ' env' st' → Dn.bk σ' H'
  | .ok (.ret d) st' => ∀ v H' S' φ', Stp E0.S E0.φ E0.H S' φ' H' → SI K S' φ' H' st' → Rep K S' φ' H' v d → Dn.rt v H'
  | .err => False
theorem FinX.kp {Dn : Ends} {m : Out Flow} (x : KP S φ H S' φ' H') (h : FinX K E0 S φ H Dn m) : FinX K E0 S' φ' H' Dn m := by
  cases m with
  | err => exact h
  | ok f s =>
    cases f with
    | nx env' => exact fun σ' H2 S2 φ2 y F => h σ' H2 S2 φ2 (x.trans y) F
    | ct env' => exact fun σ' H2 S2 φ2 y F => h σ' H2 S2 φ2 (x.trans y) F
    | bk env' => exact fun σ' H2 S2 φ2 y F => h σ' H2 S2 φ2 (x.trans y) F
    | ret d => exact h
theorem FinX.bind {α : Type} {Dn : Ends} {m : Out α} {f : α → Sto → Out Flow} (h : FinX K E0 S φ H Dn (m.bind f)) : ∃ x s, m = .ok x s ∧ FinX K E0 S φ H Dn (f x s) := by
  cases m with
  | ok x s => exact ⟨x, s, rfl, h⟩
  | err => exact False.elim h
end
structure GoodS (Γ : Ctx) (L : LC) (X : Cx) : Prop extends Good Γ L X where
  xe : X.xe = fun _ _ => False
def SX (Γ : Ctx) (L : LC) (s : Stmt) (m : Env → Sto → Out Flow) : Prop :=
  ∃ t : TS, (∀ X, GoodS Γ L X → PS X s t) ∧ ∀ E0 σ H env st S φ Dn, FI Γ.K E0 S φ H σ env st → FinX Γ.K E0 S φ H Dn (m env st) → t Dn σ H
def SXs (Γ : Ctx) (L : LC) (s : List Stmt) (m : Env → Sto → Out Flow) : Prop :=
  ∃ t : TS, (∀ X, GoodS Γ L X → PSs X s t) ∧ ∀ E0 σ H env st S φ Dn, FI Γ.K E0 S φ H σ env st → FinX Γ.K E0 S φ H Dn (m env st) → t Dn σ H
section
variable {Γ : Ctx} {L : LC} {e : Expr}
theorem sx_never {s : Stmt} {m : Env → Sto → Out Flow} (h : ∀ env s, m env s = .err) : SX Γ L s m :=
  ⟨tNever, fun X _ => ps_never, fun E0 σ H env st S φ Dn F f => by rw [h] at f; exact False.elim f⟩
theorem sx_pass {pos : Pos} : SX Γ L (.Pass pos) fun env s => .ok (.nx env) s :=
  ⟨tNext, fun X _ => ps_pass, fun E0 σ H env st S φ Dn F f => f σ H S φ .refl F⟩
theorem sx_brk {pos : Pos} : SX Γ L (.Break pos) fun env s => .ok (.bk env) s :=
  ⟨tBreak, fun X _ => ps_break, fun E0 σ H env st S φ Dn F f => f σ H S φ .refl F⟩
theorem sx_cnt {pos : Pos} : SX Γ L (.Continue pos) fun env s => .ok (.ct env) s :=
  ⟨tCont, fun X _ => ps_continue, fun E0 σ H env st S φ Dn F f => f σ H S φ .refl F⟩
theorem sx_retN {pos : Pos} : SX Γ L (.Return none pos) fun env s => .ok (.ret .non) s :=
  ⟨tRetN, fun X _ => ps_retN, fun E0 σ H env st S φ Dn F f => f .non H S φ F.ent F.si .non⟩
/-- a list of one's own becomes a value -/
theorem FI.frz {K : PySem.W.Frag} {E0 : Ent} {S : Addr → Prop} {φ : List Addr} {H : Hp} {σ : L2.St} {env : Env} {st : Sto} (F : FI K E0 S φ H σ env st) (i : Nat) : ∃ S', KP S φ H S' φ H ∧ FI K E0 S' φ H σ (frzAt env i) st := by
  unfold frzAt
  split
  · rename_i ds he
    obtain ⟨a, vs, e1, e2, e3, e4, e5⟩ := F.ei.own i ds he
    have n0 := F.own i ds a he e1
    refine ⟨PV.add S a, ⟨fun _ h => .inl h, fun _ _ => rfl, [], by simp⟩, ⟨by simp [F.ei.len], fun j d h => ?_, fun j es h => ?_, fun j l es es' b h1 h2 => ?_⟩, F.si.add e4 (by rw [e2]; simp), F.ent.addS n0, fun j es b h => ?_⟩
    · rcases set_get h with ⟨rfl, q, hi⟩ | ⟨n, h⟩
      · cases q; exact ⟨_, e1, .lst (.inr rfl) e2 (e5.tr (fun _ _ => rfl) (fun _ q => .inl q) ⟨[], by simp⟩)⟩
      · obtain ⟨v, q, r⟩ := F.ei.val j d h
        exact ⟨v, q, r.tr (fun _ _ => rfl) (fun _ q => .inl q) ⟨[], by simp⟩⟩
    · rcases set_get h with ⟨_, q, _⟩ | ⟨n, h⟩
      · cases q
      · obtain ⟨b, ws, q1, q2, q3, q4, q5⟩ := F.ei.own j es h
        refine ⟨b, ws, q1, q2, fun z => ?_, q4, q5.tr (fun _ _ => rfl) (fun _ q => .inl q) ⟨[], by simp⟩⟩
        rcases z with z | z
        · exact q3 z
        · subst z; exact n (F.ei.inj i j ds es b he h e1 q1)
    · rcases set_get h1 with ⟨_, q, _⟩ | ⟨n, h1⟩
      · cases q
      · rcases set_get h2 with ⟨_, q, _⟩ | ⟨n2, h2⟩
        · cases q
        · exact F.ei.inj j l es es' b h1 h2
    · rcases set_get h with ⟨_, q, _⟩ | ⟨n, h⟩
      · cases q
      · exact F.own j es b h
  · exact ⟨S, .refl, F⟩
theorem FI.frzE {K : PySem.W.Frag} {E0 : Ent} {S : Addr → Prop} {φ : List Addr} {H : Hp} {σ : L2.St} {env : Env} {st : Sto} (F : FI K E0 S φ H σ env st) (c : Ex) : ∃ S', KP S φ H S' φ H ∧ FI K E0 S' φ H σ (PV.frzE env c) st := by
  cases c with
  | var i => exact F.frz i
  | _ => exact ⟨S, .refl, F⟩
theorem FI.frzI {K : PySem.W.Frag} {E0 : Ent} {S : Addr → Prop} {φ : List Addr} {H : Hp} {σ : L2.St} {env : Env} {st : Sto} (F : FI K E0 S φ H σ env st) (c : Src) : ∃ S', KP S φ H S' φ H ∧ FI K E0 S' φ H σ (PV.frzI env c) st := by
  cases c with
  | seq e => exact F.frzE e
  | enm e => exact F.frzE e
  | zip a b =>
    obtain ⟨S1, k1, F1⟩ := F.frzE a
    obtain ⟨S2, k2, F2⟩ := F1.frzE b
    exact ⟨S2, k1.trans k2, F2⟩
  | _ => exact ⟨S, .refl, F⟩
theorem sx_ret {c : Ex} {cf gs} {pos : Pos} (h : SE Γ L false e (ev cf gs false c)) : SX Γ L (.Return (some e) pos) fun env s => (ev cf gs false c (frzR env c) s).bind fun d s => .ok (.ret d) s := by
  obtain ⟨t, p, q⟩ := h
  refine ⟨tRet t, fun X g => ps_ret (p X g.toGood), fun E0 σ H env st S φ Dn F f => ?_⟩
  obtain ⟨d, s1, e1, f1⟩ := f.bind
  obtain ⟨S', k, F'⟩ := F.frzE c
  have e1' : ev cf gs false c (frzE env c) st = .ok d s1 := by
    have : frzR env c = frzE env c := by cases c <;> rfl
    rw [← this]; exact e1
  exact SE.use q F'.ei F'.si e1' fun v H1 S1 φ1 x1 E1 I1 r1 => f1 v H1 S1 φ1 (F'.ent.trans x1) I1 r1.val
theorem sx_ite {c : Expr} {a b : List Stmt} {cc : Ex} {cf gs} {pos : Pos} {ma mb : Env → Sto → Out Flow} (h1 : ST Γ L c fun env s => (ev cf gs true cc env s).bind fun d s => truthS s d) (h2 : SXs Γ L a ma) (h3 : SXs Γ L b mb) :
    SX Γ L (.If c a b pos) fun env s => (ev cf gs true cc env s).bind fun x s => (truthS s x).bind fun t s => if t = true then ma env s else mb env s := by
  obtain ⟨t1, p1, q1⟩ := h1
  obtain ⟨t2, p2, q2⟩ := h2
  obtain ⟨t3, p3, q3⟩ := h3
  refine ⟨tIfS t1 t2 t3, fun X g => ps_if (p1 X g.toGood) (p2 X g) (p3 X g), fun E0 σ H env st S φ Dn F f => ?_⟩
  obtain ⟨d1, s1, e1, f1⟩ := f.bind
  obtain ⟨k, s2, ek, f2⟩ := f1.bind
  refine q1 σ H env st S φ _ F.ei F.si ?_
  simp only [e1, Out.bind, ek]
  intro H1 S1 φ1 x1 I1
  have F1 := F.go x1 I1
  have f3 := f2.kp (x1.kp F.si)
  cases k with
  | true => exact q2 E0 σ H1 env s2 S1 φ1 Dn F1 f3
  | false => exact q3 E0 σ H1 env s2 S1 φ1 Dn F1 f3
theorem sxs_nil : SXs Γ L [] fun env s => .ok (.nx env) s := ⟨tNext, fun X _ => pss_nil, fun E0 σ H env st S φ Dn F f => f σ H S φ .refl F⟩
theorem sxs_cons {s : Stmt} {ss : List Stmt} {m ms : Env → Sto → Out Flow} (h1 : SX Γ L s m) (h2 : SXs Γ L ss ms) : SXs Γ L (s :: ss) fun env st => (m env st).bind fun fl s => match fl with
    | .nx env' => ms env' s
    | .ret d => .ok (.ret d) s
    | .bk env' => .ok (.bk env') s
    | .ct env' => .ok (.ct env') s := by
  obtain ⟨t1, p1, q1⟩ := h1
  obtain ⟨t2, p2, q2⟩ := h2
  refine ⟨tSeq t1 t2, fun X g => pss_cons (p1 X g) (p2 X g), fun E0 σ H env st S φ Dn F f => ?_⟩
  obtain ⟨fl, s1, e1, f1⟩ := f.bind
  refine q1 E0 σ H env st S φ _ F ?_
  rw [e1]
  cases fl with
  | nx env' => exact fun σ' H' S' φ' k F' => q2 E0 σ' H' env' s1 S' φ' Dn F' (f1.kp k)
  | ret d => exact f1
  | bk env' => exact f1
  | ct env' => exact f1

/-! ### loops -/
theorem FI.bind {K : PySem.W.Frag} {E0 : Ent} {S : Addr → Prop} {φ : List Addr} {H : Hp} {σ σ' : L2.St} {env env' : Env} {st : Sto} (F : FI K E0 S φ H σ env st) (E : EI K S φ H σ' env') (h : ∀ (i : Nat) ds, env'[i]? = some (some (.own ds)) → env[i]? = some (some (.own ds)) ∧ σ'[i]? = σ[i]?) : FI K E0 S φ H σ' env' st :=
  ⟨E, F.si, F.ent, fun i ds a h1 h2 => let ⟨q1, q2⟩ := h i ds h1; F.own i ds a q1 (by rw [← q2]; exact h2)⟩
end
end PV
set_option maxRecDepth 100000
set_option maxHeartbeats 4000000
/-! Loops, stores, changes. -/
namespace PV
open PySem PySem.Spec PyProof.Rows L2
section
variable {Γ : Ctx} {L : LC} {e : Expr}
theorem GoodS.own {X : Cx} (g : GoodS Γ L X) : PassesOwn (model X.prog X.w) X.A X.env X.xe := by rw [g.xe]; exact .never
theorem sx_for {c : Tg} {it : Src} {tg i : Expr} {b : List Stmt} {pos : Pos} {cf gs} {mb : Env → Sto → Out Flow} (hI : SS Γ L false tg i (evI cf gs false it)) (hG : SG Γ L tg c) (hB : SXs Γ L b mb) (hs : ∀ env v, foldedSetIterable i env v = pure v) :
    SX Γ L (.For tg i b [] pos) fun env s => (evI cf gs false it (frzI env it) s).bind fun xs s => forF (fun d env s => match bindT c d env with
    | some env1 => mb env1 s
    | none => .err) xs (frzI env it) s := by
  obtain ⟨tI, pI, qI⟩ := hI
  obtain ⟨tG, pG, qG⟩ := hG
  obtain ⟨tB, pB, qB⟩ := hB
  refine ⟨tFor tI tG tB, fun X g => ps_for g.own g.calm (pI X g.toGood) (pG X g.toGood) (pB X g) (hs _), fun E0 σ H env st S φ Dn F f => ?_⟩
  obtain ⟨xs, s1, e1, f1⟩ := f.bind
  obtain ⟨S0, k0, F0⟩ := F.frzI it
  refine qI σ H (frzI env it) st S0 φ _ F0.ei F0.si ?_
  rw [e1]
  intro J H1 S1 φ1 x1 I1 JO
  have F1 := F0.go x1 I1
  have k1 := k0.trans (x1.kp F0.si)
  obtain ⟨wt, hw, hJ⟩ := JO
  refine ⟨fun i m σ2 H2 => m = xs.length - i ∧ i ≤ xs.length ∧ ∃ S2 φ2 env2 st2, KP S1 φ1 H1 S2 φ2 H2 ∧ FI Γ.K E0 S2 φ2 H2 σ2 env2 st2 ∧ FinX Γ.K E0 S2 φ2 H2 Dn (forF (fun d env s => match bindT c d env with
    | some env1 => mb env1 s
    | none => .err) (xs.drop i) env2 st2), ⟨xs.length, by simp, by simp, S1, φ1, _, _, .refl, F1, by simpa using f1.kp k1⟩, ?_⟩
  rintro i m σ2 H2 ⟨hm, hi, S2, φ2, env2, st2, k2, F2, f2⟩
  obtain ⟨g1, g2, g3⟩ := hJ S2 φ2 H2 (fun a ha => k2.same a ((hw a ha).2.2 rfl)) k2.same k2.sub k2.pre
  by_cases hlt : i < xs.length
  · right
    refine ⟨g1 i hlt, fun σ' H' => ∃ m', m' < m ∧ (m' = xs.length - (i + 1) ∧ i + 1 ≤ xs.length ∧ ∃ S2 φ2 env2 st2, KP S1 φ1 H1 S2 φ2 H' ∧ FI Γ.K E0 S2 φ2 H' σ' env2 st2 ∧ FinX Γ.K E0 S2 φ2 H' Dn (forF (fun d env s => match bindT c d env with
      | some env1 => mb env1 s
      | none => .err) (xs.drop (i + 1)) env2 st2)), fun σ' H' h => h, fun x H3 hy => ?_⟩
    have hd : xs[i]? = some xs[i] := List.getElem?_eq_getElem hlt
    obtain ⟨S3, x3, I3, r3⟩ := g3 i xs[i] x H3 hd hy st2 F2.si
    have F3 := F2.go x3 I3
    rw [List.drop_eq_getElem_cons hlt] at f2
    have f2' : FinX Γ.K E0 S2 φ2 H2 Dn (((match bindT c xs[i] env2 with
      | some env1 => mb env1 st2
      | none => .err) : Out Flow).bind fun fl s => match fl with
        | .nx env' => forF (fun d env s => match bindT c d env with
          | some env1 => mb env1 s
          | none => .err) (xs.drop (i + 1)) env' s
        | .ct env' => forF (fun d env s => match bindT c d env with
          | some env1 => mb env1 s
          | none => .err) (xs.drop (i + 1)) env' s
        | .bk env' => .ok (.nx env') s
        | .ret d => .ok (.ret d) s) := f2
    have k3 : KP S2 φ2 H2 S3 φ2 H3 := x3.kp F2.si
    cases eb : bindT c xs[i] env2 with
    | none => rw [eb] at f2'; exact False.elim f2'
    | some env3 =>
      simp only [eb] at f2'
      refine qG x _ σ2 H3 env2 env3 S3 φ2 st2 _ F3.ei I3 r3 eb fun σ3 w3 E4 => ?_
      have F4 : FI Γ.K E0 S3 φ2 H3 σ3 env3 st2 := FI.bind F3 E4 w3.2
      refine qB E0 σ3 H3 env3 st2 S3 φ2 _ F4 ?_
      obtain ⟨fl, s5, e5, f5⟩ := f2'.bind
      rw [e5]
      cases fl with
      | nx env' => exact fun σ' H' S' φ' k F' => ⟨xs.length - (i + 1), by omega, rfl, hlt, S', φ', env', s5, (k2.trans k3).trans k, F', f5.kp (k3.trans k)⟩
      | ct env' => exact fun σ' H' S' φ' k F' => ⟨xs.length - (i + 1), by omega, rfl, hlt, S', φ', env', s5, (k2.trans k3).trans k, F', f5.kp (k3.trans k)⟩
      | bk env' => exact f5.kp k3
      | ret d => exact f5
  · left
    have hi' : i = xs.length := by omega
    subst hi'
    refine ⟨g2, ?_⟩
    rw [List.drop_length] at f2
    exact f2 σ2 H2 S2 φ2 .refl F2
theorem sx_while {c : Expr} {b : List Stmt} {pos : Pos} {mc : Env → Sto → Out Bool} {mb : Env → Sto → Out Flow} (hC : ST Γ L c mc) (hB : SXs Γ L b mb) :
    SX Γ L (.While c b [] pos) fun env s => whileF mc mb env s := by
  obtain ⟨tC, pC, qC⟩ := hC
  obtain ⟨tB, pB, qB⟩ := hB
  refine ⟨tWhile tC tB, fun X g => ps_while g.own (pC X g.toGood) (pB X g), fun E0 σ H env st S φ Dn F f => ?_⟩
  obtain ⟨n, fn⟩ : ∃ n, FinX Γ.K E0 S φ H Dn (whileN mc mb n env st) := by
    simp only [whileF] at f
    split at f
    · exact ⟨_, f⟩
    · exact False.elim f
  refine ⟨fun m σ2 H2 => ∃ S2 φ2 env2 st2, KP S φ H S2 φ2 H2 ∧ FI Γ.K E0 S2 φ2 H2 σ2 env2 st2 ∧ FinX Γ.K E0 S2 φ2 H2 Dn (whileN mc mb m env2 st2), ⟨n, S, φ, env, st, .refl, F, fn⟩, ?_⟩
  rintro m σ2 H2 ⟨S2, φ2, env2, st2, k2, F2, f2⟩
  cases m with
  | zero => exact False.elim f2
  | succ m =>
    have f2' : FinX Γ.K E0 S2 φ2 H2 Dn ((mc env2 st2).bind fun t s => if t = true then (mb env2 s).bind fun fl s => (match fl with
      | .nx env' => whileN mc mb m env' s
      | .ct env' => whileN mc mb m env' s
      | .bk env' => .ok (.nx env') s
      | .ret d => .ok (.ret d) s) else .ok (.nx env2) s) := f2
    obtain ⟨t, s3, e3, f3⟩ := f2'.bind
    refine qC σ2 H2 env2 st2 S2 φ2 _ F2.ei F2.si ?_
    rw [e3]
    intro H3 S3 φ3 x3 I3
    have F3 := F2.go x3 I3
    have k3 := x3.kp F2.si
    cases t with
    | false =>
      rw [if_neg Bool.false_ne_true] at f3 ⊢
      exact f3 σ2 H3 S3 φ3 k3 F3
    | true =>
      rw [if_pos rfl] at f3 ⊢
      obtain ⟨fl, s5, e5, f5⟩ := f3.bind
      refine ⟨fun σ' H' => ∃ m', m' < m + 1 ∧ ∃ S2 φ2 env2 st2, KP S φ H S2 φ2 H' ∧ FI Γ.K E0 S2 φ2 H' σ' env2 st2 ∧ FinX Γ.K E0 S2 φ2 H' Dn (whileN mc mb m' env2 st2), fun _ _ h => h, qB E0 σ2 H3 env2 s3 S3 φ3 _ F3 ?_⟩
      rw [e5]
      cases fl with
      | nx env' => exact fun σ' H' S' φ' k F' => ⟨m, by omega, S', φ', env', s5, (k2.trans k3).trans k, F', f5.kp (k3.trans k)⟩
      | ct env' => exact fun σ' H' S' φ' k F' => ⟨m, by omega, S', φ', env', s5, (k2.trans k3).trans k, F', f5.kp (k3.trans k)⟩
      | bk env' => exact f5.kp k3
      | ret d => exact f5

/-! ### stores -/
def isLcE : Expr → Bool
  | .ListComp _ _ _ _ => true
  | .SetComp _ _ _ _ => true
  | .DictComp _ _ _ _ _ => true
  | _ => false
theorem noSwap {v : Expr} (h : isLcE v = false) (t : Option Expr) (n : Nat) (env : PySem.Env) : swapsWith v t n env = pure false := by
  cases v <;> first | rfl | cases h
theorem noSwapS {v : Expr} (h : isLcE v = false) (t : Expr) (n : Nat) (env : PySem.Env) : swapsWithSole [t] v n env = pure false := noSwap h (some t) n env
/-- what a store into slot i says -/
def SFA (Γ : Ctx) (L : LC) (i : Nat) (x : Str) (px : Pos) (e : Expr) (pos : Pos) (m : Env → Sto → Out (List D)) : Prop :=
  ∃ t : TE, (∀ X, GoodS Γ L X → PS X (.Assign [.Name x px] e pos) (tAsg t (gName i))) ∧ ∀ σ H env st S φ Q, EI Γ.K S φ H σ env → SI Γ.K S φ H st → FinF Γ.K S φ H Q (m env st) → t σ H Q
theorem FI.setV {K : PySem.W.Frag} {E0 : Ent} {S : Addr → Prop} {φ : List Addr} {H : Hp} {σ : L2.St} {env : Env} {st : Sto} {i : Nat} {v : V} {d : D} (F : FI K E0 S φ H σ env st) (r : Rep K S φ H v d) : FI K E0 S φ H (σ.set i (some v)) (env.set i (some (.val d))) st :=
  FI.bind F (F.ei.setV r) kept_set
/-- a new list of one's own comes into slot i -/
theorem FI.setO {K : PySem.W.Frag} {E0 : Ent} {S : Addr → Prop} {φ : List Addr} {H : Hp} {σ : L2.St} {env : Env} {st : Sto} {i : Nat} {a : Addr} {vs : List V} {ds : List D} (F : FI K E0 S φ H σ env st) (h0 : E0.H a = none)
    (hn : ∀ (j : Nat) es, env[j]? = some (some (.own es)) → σ[j]? ≠ some (some (.ref a))) (h1 : ¬ S a) (h2 : a ∉ φ) (h3 : H a = some (.lst vs)) (r : RepL K S φ H vs ds) :
    FI K E0 S φ H (σ.set i (some (.ref a))) (env.set i (some (.own ds))) st := by
  refine ⟨⟨by simp [F.ei.len], fun j d h => ?_, fun j es h => ?_, fun j l es es' b h1 h2 h3 h4 => ?_⟩, F.si, F.ent, fun j es b h h' => ?_⟩
  · rcases set_get h with ⟨_, e, _⟩ | ⟨n, h⟩
    · cases e
    · obtain ⟨w, e, q⟩ := F.ei.val j d h
      exact ⟨w, by rw [List.getElem?_set_ne n]; exact e, q⟩
  · rcases set_get h with ⟨rfl, e, hi⟩ | ⟨n, h⟩
    · cases e; exact ⟨a, vs, List.getElem?_set_self (by rw [← F.ei.len]; exact hi), h3, h1, h2, r⟩
    · obtain ⟨b, ws, e, q⟩ := F.ei.own j es h
      exact ⟨b, ws, by rw [List.getElem?_set_ne n]; exact e, q⟩
  · rcases set_get h1 with ⟨rfl, e, hi⟩ | ⟨n, h1⟩
    · rw [List.getElem?_set_self (by rw [← F.ei.len]; exact hi)] at h3
      cases h3
      rcases set_get h2 with ⟨rfl, e, _⟩ | ⟨n2, h2⟩
      · rfl
      · rw [List.getElem?_set_ne n2] at h4
        exact absurd h4 (hn l es' h2)
    · rw [List.getElem?_set_ne n] at h3
      rcases set_get h2 with ⟨rfl, e, hi⟩ | ⟨n2, h2⟩
      · rw [List.getElem?_set_self (by rw [← F.ei.len]; exact hi)] at h4
        cases h4
        exact absurd h3 (hn j es h1)
      · rw [List.getElem?_set_ne n2] at h4
        exact F.ei.inj j l es es' b h1 h2 h3 h4
  · rcases set_get h with ⟨rfl, e, hi⟩ | ⟨n, h⟩
    · rw [List.getElem?_set_self (by rw [← F.ei.len]; exact hi)] at h'
      cases h'; exact h0
    · rw [List.getElem?_set_ne n] at h'
      exact F.own j es b h h'
theorem FI.fresh {K : PySem.W.Frag} {E0 : Ent} {S : Addr → Prop} {φ : List Addr} {H : Hp} {σ : L2.St} {env : Env} {st : Sto} {a : Addr} (F : FI K E0 S φ H σ env st) (h : H a = none) : E0.H a = none ∧ ∀ (j : Nat) es, env[j]? = some (some (.own es)) → σ[j]? ≠ some (some (.ref a)) :=
  ⟨F.ent.free h, fun j es e q => by
    obtain ⟨b, vs, e1, e2, _⟩ := F.ei.own j es e
    rw [q] at e1; cases e1
    rw [h] at e2; cases e2⟩
theorem sx_own {i : Nat} {x : Str} {px pos : Pos} {m : Env → Sto → Out (List D)} (h : SFA Γ L i x px e pos m) : SX Γ L (.Assign [.Name x px] e pos) fun env s => (m env s).bind fun ds s => .ok (.nx (env.set i (some (.own ds)))) s := by
  obtain ⟨t, p, q⟩ := h
  refine ⟨_, p, fun E0 σ H env st S φ Dn F f => ?_⟩
  obtain ⟨ds, s1, e1, f1⟩ := f.bind
  refine q σ H env st S φ _ F.ei F.si ?_
  rw [e1]
  intro a vs H' S' φ' x' I' hn h1 h2 h3 r
  have F' := F.go x' I'
  obtain ⟨n1, n2⟩ := F.fresh hn
  exact f1 _ H' S' φ' (x'.kp F.si) (F'.setO n1 n2 h1 h2 h3 r)
theorem sx_fz {i : Nat} {x : Str} {px pos : Pos} {m : Env → Sto → Out (List D)} (h : SFA Γ L i x px e pos m) : SX Γ L (.Assign [.Name x px] e pos) fun env s => (m env s).bind fun ds s => .ok (.nx (env.set i (some (.val (.lst ds))))) s := by
  obtain ⟨t, p, q⟩ := h
  refine ⟨_, p, fun E0 σ H env st S φ Dn F f => ?_⟩
  obtain ⟨ds, s1, e1, f1⟩ := f.bind
  refine q σ H env st S φ _ F.ei F.si ?_
  rw [e1]
  intro a vs H' S' φ' x' I' hn h1 h2 h3 r
  have x2 : Stp S φ H (PV.add S' a) φ' H' := x'.addS hn
  have I2 := I'.add h2 (by rw [h3]; simp)
  have F' := F.go x2 I2
  have r' : Rep Γ.K (PV.add S' a) φ' H' (.ref a) (.lst ds) := .lst (.inr rfl) h3 (r.tr (fun _ _ => rfl) (fun _ q => .inl q) ⟨[], by simp⟩)
  exact f1 _ H' _ φ' (x2.kp F.si) (F'.setV r')
theorem sfa_of (Γok : CtxOk Γ) {i : Nat} {x : Str} {px pos : Pos} {c : Fx} (h1 : Γ.m.N[i]? = some x) (h2 : locB L.sc x = true) (h3 : L.fb x = true ∨ L.sc.names.lookup x = some .local) (h : mF Γ.m c L.sc e = true) : SFA Γ L i x px e pos (evF Γ.cf Γ.gs c) := by
  have plain : isLcE e = false → SFA Γ L i x px e pos (evF Γ.cf Γ.gs c) := fun hl => by
    obtain ⟨t, p, q⟩ := sF Γok c L e h
    exact ⟨t, fun X g => ps_set (by rw [g.N]; exact Γok.nd) (by rw [g.N]; exact h1) (by rw [g.sc]; exact loc_of h2) (p X g.toGood) (noSwap hl _ _ _) (by rw [g.fn, g.sc]; exact h3), q⟩
  cases c with
  | dsp es =>
    refine plain ?_
    unfold mF at h
    split at h
    · rfl
    · cases h
  | lof a =>
    refine plain ?_
    unfold mF at h
    split at h
    · rfl
    · cases h
  | cp1 elt tg it cond vs =>
    unfold mF at h
    split at h
    · rename_i x' t i' ifs a scope p
      simp only [Bool.and_eq_true, decide_eq_true_eq] at h
      obtain ⟨⟨⟨⟨⟨⟨⟨g1, g2⟩, g3⟩, g4⟩, g5⟩, g6⟩, g7⟩, g8⟩ := h
      subst g1
      obtain ⟨te, p, q⟩ := sf_cp1 (pos := p) Γok (sI Γok it L true t i' g2) g3 g4 g5 (sg_of (L := ⟨relS scope L.sc, fbC scope⟩) Γok g6) (sC Γok cond ⟨relS scope L.sc, fbC scope⟩ ifs g7) (sE Γok elt ⟨relS scope L.sc, fbC scope⟩ false _ g8) (folded_of g2)
      refine ⟨te, fun X g => ?_, q⟩
      cases hb : (X.env.blockKind == .function && X.env.kindOf x == some .local && px.line == (Expr.ListComp x' [⟨t, i', ifs, 0⟩] scope _).pos.line && !(scope.names.any fun (n, k) => n == x && (k == .local || k == .cell))) with
      | true =>
        have hk : L.sc.names.lookup x = some .local := by
          simp only [Bool.and_eq_true] at hb
          have := hb.1.1.2
          rw [← g.sc]
          exact eq_of_beq this
        exact (p X g.toGood).2 i x px pos h1 hk (congrArg (fun b => (pure b : Sem Bool)) hb)
      | false =>
        exact ps_set (by rw [g.N]; exact Γok.nd) (by rw [g.N]; exact h1) (by rw [g.sc]; exact loc_of h2) (p X g.toGood).1 (congrArg (fun b => (pure b : Sem Bool)) hb) (by rw [g.fn, g.sc]; exact h3)
    · cases h
  | cp2 elt tg it cond tg1 it1 cond1 vs vs1 =>
    unfold mF at h
    split at h
    · rename_i x' t i' ifs a t1 i1 ifs1 a1 scope p
      simp only [Bool.and_eq_true, decide_eq_true_eq] at h
      obtain ⟨⟨⟨⟨⟨⟨⟨⟨⟨⟨⟨⟨⟨g1, g1'⟩, g2⟩, g3⟩, g4⟩, g5⟩, g6⟩, g7⟩, g8⟩, g9⟩, g10⟩, g11⟩, g12⟩, g13⟩ := h
      subst g1 g1'
      have hv1 : ∀ j ∈ vs1, j ∈ vs := fun j hj => by
        have := List.all_eq_true.mp g5 j hj
        simpa using this
      obtain ⟨te, p, q⟩ := sf_cp2 (pos := p) Γok (sI Γok it L true t i' g2) g3 g4 hv1 g6 g7 (sg_of (L := ⟨relS scope L.sc, fbC scope⟩) Γok g8) (sC Γok cond ⟨relS scope L.sc, fbC scope⟩ ifs g9) (sI Γok it1 ⟨relS scope L.sc, fbC scope⟩ false t1 i1 g10)
        (sg_of (L := ⟨relS scope L.sc, fbC scope⟩) Γok g11) (sC Γok cond1 ⟨relS scope L.sc, fbC scope⟩ ifs1 g12) (sE Γok elt ⟨relS scope L.sc, fbC scope⟩ false _ g13) (folded_of g2) (folded_of g10)
      refine ⟨te, fun X g => ?_, q⟩
      cases hb : (X.env.blockKind == .function && X.env.kindOf x == some .local && px.line == (Expr.ListComp x' [⟨t, i', ifs, 0⟩, ⟨t1, i1, ifs1, 0⟩] scope _).pos.line && !(scope.names.any fun (n, k) => n == x && (k == .local || k == .cell))) with
      | true =>
        have hk : L.sc.names.lookup x = some .local := by
          simp only [Bool.and_eq_true] at hb
          have := hb.1.1.2
          rw [← g.sc]
          exact eq_of_beq this
        exact (p X g.toGood).2 i x px pos h1 hk (congrArg (fun b => (pure b : Sem Bool)) hb)
      | false =>
        exact ps_set (by rw [g.N]; exact Γok.nd) (by rw [g.N]; exact h1) (by rw [g.sc]; exact loc_of h2) (p X g.toGood).1 (congrArg (fun b => (pure b : Sem Bool)) hb) (by rw [g.fn, g.sc]; exact h3)
    · cases h
/-- target = e -/
theorem sx_asg {c : Ex} {k : Tg} {tg : Expr} {pos : Pos} {cf gs} (hG : SG Γ L tg k) (hE : SE Γ L false e (ev cf gs false c))
    (hs : ∀ X, GoodS Γ L X → ∀ te g, PE X e te → PG X tg g → PS X (.Assign [tg] e pos) (tAsg te g)) :
    SX Γ L (.Assign [tg] e pos) fun env s => (ev cf gs false c env s).bind fun d s => match bindT k d env with
    | some env' => .ok (.nx env') s
    | none => .err := by
  obtain ⟨g, pG, qG⟩ := hG
  obtain ⟨t, p, q⟩ := hE
  refine ⟨tAsg t g, fun X gd => hs X gd _ _ (p X gd.toGood) (pG X gd.toGood), fun E0 σ H env st S φ Dn F f => ?_⟩
  obtain ⟨d, s1, e1, f1⟩ := f.bind
  refine SE.use q F.ei F.si e1 fun v H1 S1 φ1 x1 E1 I1 r1 => ?_
  have F1 := F.go x1 I1
  cases eb : bindT k d env with
  | none => rw [eb] at f1; exact False.elim f1
  | some env1 =>
    rw [eb] at f1
    exact qG v d σ H1 env env1 S1 φ1 s1 _ E1 I1 r1.val eb fun σ' w E2 => f1 σ' H1 S1 φ1 (x1.kp F.si) (FI.bind F1 E2 w.2)
theorem asg_name (Γok : CtxOk Γ) {x : Str} {px pos : Pos} (hl : isLcE e = false) : ∀ X, GoodS Γ L X → ∀ te g, PE X e te → PG X (.Name x px) g → PS X (.Assign [.Name x px] e pos) (tAsg te g) :=
  fun X gd te g he hg => ps_asg he hg (noSwapS hl _ _ _) rfl rfl
theorem asg_tup {ts : List Expr} {k : Nat} {pt pos : Pos} (hv : isTupE e = false) (hl : isLcE e = false) : ∀ X, GoodS Γ L X → ∀ te g, PE X e te → PG X (.Tuple ts k pt) g → PS X (.Assign [.Tuple ts k pt] e pos) (tAsg te g) :=
  fun X gd te g he hg => ps_asg he hg (noSwapS hl _ _ _) (by cases e <;> first | rfl | cases hv) rfl
theorem sx_ex {c : Ex} {pos : Pos} {cf gs} (hl : isLcE e = false) (hE : SE Γ L false e (ev cf gs false c)) : SX Γ L (.Expr e pos) fun env s => (ev cf gs false c env s).bind fun _ s => .ok (.nx env) s := by
  obtain ⟨t, p, q⟩ := hE
  refine ⟨tDrop t, fun X gd => ps_expr (p X gd.toGood) (noSwap hl _ _ _), fun E0 σ H env st S φ Dn F f => ?_⟩
  obtain ⟨d, s1, e1, f1⟩ := f.bind
  exact SE.use q F.ei F.si e1 fun v H1 S1 φ1 x1 E1 I1 r1 => f1 σ H1 S1 φ1 (x1.kp F.si) (F.go x1 I1)

/-! ### changes of a list -/
section
variable {K : PySem.W.Frag} {E0 : Ent} {S S' S2 : Addr → Prop} {φ φ' φ2 : List Addr} {H H' H2 : Hp} {σ : L2.St} {env : Env} {st st' : Sto} {i : Nat} {f : List D → Option (List D)}
/-- the list that slot i holds -/
theorem chg_at {Dn : Ends} (F : FI K E0 S φ H σ env st) (h : FinX K E0 S φ H Dn (chg env i st f)) :
    ∃ a vs ds ds', σ[i]? = some (some (.ref a)) ∧ H a = some (.lst vs) ∧ RepL K S φ H vs ds ∧ f ds = some ds' ∧ ∀ vs', RepL K S φ H vs' ds' → Dn.nx σ (upd H a (.lst vs')) := by
  unfold chg at h
  split at h
  · rename_i ds he
    obtain ⟨a, vs, e1, e2, e3, e4, e5⟩ := F.ei.own i ds he
    split at h
    · rename_i ds' hf
      refine ⟨a, vs, ds, ds', e1, e2, e5, hf, fun vs' r' => ?_⟩
      have hS : ∀ b, S b → upd H a (.lst vs') b = H b := fun b hb => upd_ne (fun q => e3 (by rw [← q]; exact hb))
      have tr : ∀ {ws : List V} {es : List D}, RepL K S φ H ws es → RepL K S φ (upd H a (.lst vs')) ws es := fun r => r.tr hS (fun _ q => q) ⟨[], by simp⟩
      have n0 := F.own i ds a he e1
      have hd : ∀ b, H b ≠ none → upd H a (.lst vs') b ≠ none := fun b hb => by
        by_cases q : b = a
        · rw [q, upd_same]; simp
        · rw [upd_ne q]; exact hb
      refine h σ _ S φ ⟨fun _ q => q, hS, [], by simp⟩ ⟨⟨by simp [F.ei.len], fun j d hj => ?_, fun j es hj => ?_, fun j l es es' b h1 h2 h3 h4 => ?_⟩, ⟨fun b hb => hd b (F.si.dom b hb), F.si.dis, F.si.len, F.si.nd, fun n b es h1 h2 => ?_⟩, ⟨fun b o hb hn => ?_, fun b hb => hd b (F.ent.some b hb), F.ent.sub, F.ent.new, F.ent.phi⟩, fun j es b hj hb => ?_⟩
      · rcases set_get hj with ⟨_, q, _⟩ | ⟨n, hj⟩
        · cases q
        · obtain ⟨v, q1, q2⟩ := F.ei.val j d hj
          exact ⟨v, q1, q2.tr hS (fun _ q => q) ⟨[], by simp⟩⟩
      · rcases set_get hj with ⟨rfl, q, hi⟩ | ⟨n, hj⟩
        · cases q; exact ⟨a, vs', e1, upd_same, e3, e4, tr r'⟩
        · obtain ⟨b, ws, q1, q2, q3, q4, q5⟩ := F.ei.own j es hj
          have hb : b ≠ a := fun q => n (F.ei.inj i j ds es a he hj e1 (by rw [← q]; exact q1))
          exact ⟨b, ws, q1, by rw [upd_ne hb]; exact q2, q3, q4, tr q5⟩
      · have back : ∀ {j : Nat} {es : List D}, (env.set i (some (.own ds')))[j]? = some (some (.own es)) → ∃ es', env[j]? = some (some (.own es')) := fun {j es} hj => by
          rcases set_get hj with ⟨rfl, q, hi⟩ | ⟨n, hj⟩
          · exact ⟨_, he⟩
          · exact ⟨_, hj⟩
        obtain ⟨_, h1⟩ := back h1
        obtain ⟨_, h2⟩ := back h2
        exact F.ei.inj j l _ _ b h1 h2 h3 h4
      · obtain ⟨ws, q1, q2⟩ := F.si.obj n b es h1 h2
        exact ⟨ws, by rw [upd_ne (fun q => e4 (by rw [← q]; exact List.mem_of_getElem? h1))]; exact q1, tr q2⟩
      · rw [upd_ne (fun q => by rw [q, n0] at hb; cases hb)]; exact F.ent.keep b o hb hn
      · rcases set_get hj with ⟨rfl, q, hi⟩ | ⟨n, hj⟩
        · exact F.own _ _ b he hb
        · exact F.own j es b hj hb
    · exact False.elim h
  · rename_i n he
    obtain ⟨v, e1, r⟩ := F.ei.val i _ he
    cases r with
    | @loc a _ hφ =>
      split at h
      · rename_i ds hs
        obtain ⟨vs, hv, rv⟩ := F.si.obj n a ds hφ hs
        split at h
        · rename_i ds' hf
          refine ⟨a, vs, ds, ds', e1, hv, rv, hf, fun vs' r' => ?_⟩
          have hm : a ∈ φ := List.mem_of_getElem? hφ
          have x := Stp.chg (S := S) (o := .lst vs') (H := H) hm
          exact h σ _ S φ ⟨fun _ q => q, fun b hb => upd_ne (fun q => F.si.dis a hm (by rw [← q]; exact hb)), [], by simp⟩ ⟨F.ei.mono x F.si, F.si.chg hφ r', F.ent.trans x, F.own⟩
        · exact False.elim h
      · exact False.elim h
  · exact False.elim h
theorem chg_ty {Dn : Ends} {st2 : Sto} (E : EI K S φ H σ env) (I : SI K S φ H st) (h : FinX K E0 S' φ' H' Dn (chg env i st2 f)) : ∃ a vs, σ[i]? = some (some (.ref a)) ∧ H a = some (.lst vs) := by
  unfold chg at h
  split at h
  · rename_i ds he
    obtain ⟨a, vs, e1, e2, _⟩ := E.own i ds he
    exact ⟨a, vs, e1, e2⟩
  · rename_i n he
    obtain ⟨v, e1, r⟩ := E.val i _ he
    cases r with
    | @loc a _ hφ =>
      have hn : n < st.length := by rw [← I.len]; exact (List.getElem?_eq_some_iff.mp hφ).1
      cases e : st[n] with
      | lst ds =>
        obtain ⟨vs, hv, _⟩ := I.obj n a ds hφ (by rw [List.getElem?_eq_getElem hn, e])
        exact ⟨a, vs, e1, hv⟩
  · exact False.elim h
end
theorem pvar_of {i : Nat} {x : Str} {p : Pos} (h1 : Γ.m.N[i]? = some x) (h2 : visB L.sc x = true) (h3 : okN x = true) : ∀ X, Good Γ L X → PE X (.Name x p) (tVar i) := fun X g => by
  obtain ⟨n1, n2, _⟩ := okN_of h3
  exact pe_var (by rw [g.N]; exact h1) (by rw [g.sc]; exact vis_of h2) n1 n2
theorem sx_app {i : Nat} {x : Str} {y : Expr} {c : Ex} {p apos cpos pos : Pos} {cf gs} (h1 : Γ.m.N[i]? = some x) (h2 : visB L.sc x = true) (h3 : okN x = true) (hl : (apos.endLine == cpos.line) = true)
    (hst : ∀ env r, starEach (y :: r) env = (false, eval y env) :: starEach r env) (hE : SE Γ L false y (ev cf gs false c)) :
    SX Γ L (.Expr (.Call (.Attribute (.Name x p) ("append" : Str) apos) [y] [] cpos) pos) fun env s => (ev cf gs false c env s).bind fun d s => chg env i s fun ds => if ds.length < LINE then some (ds ++ [d]) else none := by
  obtain ⟨t, p1, q1⟩ := hE
  refine ⟨tDrop (tBM Γ.K "list" rAppend (tVar i) (tCons t tNil)), fun X g => by
    rw [← g.K]
    exact ps_expr (pe_bm PySem.F.plainAttrs_list PySem.F.slot_list_append PySem.F.type_list_append mt_append (pvar_of h1 h2 h3 X g.toGood) (pa_cons (p1 X g.toGood) pa_nil (hst _ _)) rfl (by rw [hst]; rfl) hl (hst _ _) rfl) rfl, fun E0 σ H env st S φ Dn F f => ?_⟩
  obtain ⟨d, s1, e1, f1⟩ := f.bind
  obtain ⟨a0, vs0, g1, g2⟩ := chg_ty F.ei F.si f1
  refine ⟨_, g1, .inl ⟨rfl, vs0, .inl (.inl g2)⟩, ?_⟩
  refine SE.use q1 F.ei F.si e1 fun v H1 S1 φ1 x1 E1 I1 r1 => ?_
  have F1 := F.go x1 I1
  obtain ⟨a, vs, ds, ds', k1, k2, k3, k4, k5⟩ := chg_at F1 (f1.kp (x1.kp F.si))
  rw [g1] at k1; cases k1
  by_cases hz : ds.length < LINE
  · rw [if_pos hz] at k4; cases k4
    exact ⟨_, vs, v, rfl, rfl, k2, by rw [k3.length]; exact hz, k5 _ (k3.append (.cons r1.val .nil))⟩
  · rw [if_neg hz] at k4; cases k4
theorem sx_ext {i : Nat} {x : Str} {y : Expr} {c : Ex} {p apos cpos pos : Pos} {cf gs} (h1 : Γ.m.N[i]? = some x) (h2 : visB L.sc x = true) (h3 : okN x = true) (hl : (apos.endLine == cpos.line) = true)
    (hst : ∀ env r, starEach (y :: r) env = (false, eval y env) :: starEach r env) (hE : SE Γ L true y (ev cf gs true c)) :
    SX Γ L (.Expr (.Call (.Attribute (.Name x p) ("extend" : Str) apos) [y] [] cpos) pos) fun env s => (ev cf gs true c env s).bind fun d s => (match d with
    | .lst zs => chg env i s fun ds => if ds.length + zs.length ≤ LINE then some (ds ++ zs) else none
    | _ => .err) := by
  obtain ⟨t, p1, q1⟩ := hE
  refine ⟨tDrop (tBM Γ.K "list" rExtend (tVar i) (tCons t tNil)), fun X g => by
    rw [← g.K]
    exact ps_expr (pe_bm PySem.F.plainAttrs_list PySem.F.slot_list_extend PySem.F.type_list_extend mt_extend (pvar_of h1 h2 h3 X g.toGood) (pa_cons (p1 X g.toGood) pa_nil (hst _ _)) rfl (by rw [hst]; rfl) hl (hst _ _) rfl) rfl, fun E0 σ H env st S φ Dn F f => ?_⟩
  obtain ⟨d, s1, e1, f1⟩ := f.bind
  cases d with
  | lst zs =>
    obtain ⟨a0, vs0, g1, g2⟩ := chg_ty F.ei F.si f1
    refine ⟨_, g1, .inl ⟨rfl, vs0, .inl (.inl g2)⟩, ?_⟩
    refine SE.use q1 F.ei F.si e1 fun v H1 S1 φ1 x1 E1 I1 r1 => ?_
    have F1 := F.go x1 I1
    obtain ⟨a, vs, ds, ds', k1, k2, k3, k4, k5⟩ := chg_at F1 (f1.kp (x1.kp F.si))
    rw [g1] at k1; cases k1
    obtain ⟨b, ws, rfl, hb, rb⟩ := r1.rd0.lst
    by_cases hz : ds.length + zs.length ≤ LINE
    · rw [if_pos hz] at k4; cases k4
      exact ⟨_, b, vs, ws, rfl, rfl, k2, hb, by rw [k3.length, rb.length]; exact hz, k5 _ (k3.append rb)⟩
    · rw [if_neg hz] at k4; cases k4
  | _ => exact False.elim f1
theorem sx_setV {i : Nat} {x : Str} {y : Expr} {c ck : Ex} {p sp pos : Pos} {cf gs} (h1 : Γ.m.N[i]? = some x) (h2 : visB L.sc x = true) (h3 : okN x = true) (hl : isLcE e = false)
    (hy : ∀ env v, assign (.Subscript (.Name x p) y sp) env v = (do
      let ov ← holding [v] (eval (.Name x p) env)
      let iv ← holding [v, ov] (eval y env)
      standAt sp
      holding [v, ov, iv] (setItem ov iv v)
      release [v, ov, iv] []))
    (hE : SE Γ L false e (ev cf gs false c)) (hK : SE Γ L true y (ev cf gs true ck)) :
    SX Γ L (.Assign [.Subscript (.Name x p) y sp] e pos) fun env s => (ev cf gs false c env s).bind fun d s => (ev cf gs true ck env s).bind fun x s => (match x with
    | .int k => chg env i s fun ds => (L2.ixN ds.length k).map fun j => ds.set j d
    | _ => .err) := by
  obtain ⟨t, p1, q1⟩ := hE
  obtain ⟨t2, p2, q2⟩ := hK
  refine ⟨tAsg t (gSub (tVar i) t2 rSetL), fun X g => ps_asg (p1 X g.toGood) (pg_sub (pvar_of h1 h2 h3 X g.toGood) (p2 X g.toGood) set_list (hy _)) (noSwapS hl _ _ _) rfl rfl, fun E0 σ H env st S φ Dn F f => ?_⟩
  obtain ⟨d, s1, e1, f1⟩ := f.bind
  obtain ⟨x, s2, e2, f2⟩ := f1.bind
  refine SE.use q1 F.ei F.si e1 fun v H1 S1 φ1 x1 E1 I1 r1 => ?_
  cases x with
  | int k =>
    obtain ⟨a0, vs0, g1, g2⟩ := chg_ty F.ei F.si f2
    refine ⟨_, g1, ?_⟩
    refine SE.use q2 E1 I1 e2 fun w H2 S2 φ2 x2 E2 I2 r2 => ?_
    have F2 := (F.go x1 I1).go x2 I2
    obtain ⟨a, vs, ds, ds', k1, k2, k3, k4, k5⟩ := chg_at F2 (f2.kp ((x1.kp F.si).trans (x2.kp I1)))
    rw [g1] at k1; cases k1
    cases ej : L2.ixN ds.length k with
    | none => rw [ej] at k4; cases k4
    | some j =>
      rw [ej] at k4; cases k4
      exact ⟨_, vs, k, j, rfl, r2.rd0.int, k2, by rw [k3.length]; exact ej, k5 _ (k3.set j (r1.val.mono x2 I1))⟩
  | _ => exact False.elim f2
end
end PV
set_option maxRecDepth 100000
set_option maxHeartbeats 4000000
/-! Stores side by side; all statements. -/
namespace PV
open PySem PySem.Spec PyProof.Rows L2
inductive RepP (K : PySem.W.Frag) (S : Addr → Prop) (φ : List Addr) (H : Hp) : (Addr → Prop) → List V → List SV → Prop
  | nil {T : Addr → Prop} : RepP K S φ H T [] []
  | val {T : Addr → Prop} {v : V} {d : D} {vs : List V} {sv : List SV} : Rep K S φ H v d → RepP K S φ H T vs sv → RepP K S φ H T (v :: vs) (.val d :: sv)
  | own {T : Addr → Prop} {a : Addr} {ws : List V} {ds : List D} {vs : List V} {sv : List SV} : ¬ T a → ¬ S a → a ∉ φ → H a = some (.lst ws) → RepL K S φ H ws ds → RepP K S φ H (fun b => T b ∨ b = a) vs sv → RepP K S φ H T (.ref a :: vs) (.own ds :: sv)
def FinP (K : PySem.W.Frag) (S : Addr → Prop) (φ : List Addr) (H : Hp) (Q : List V → Hp → Prop) : Out (List SV) → Prop
  | .ok sv st' => ∀ vs H' S' φ', Stp S φ H S' φ' H' → SI K S' φ' H' st' → RepP K S' φ' H' (fun a => H a ≠ none) vs sv → Q vs H'
  | .err => False
def SP (Γ : Ctx) (L : LC) (es : List Expr) (m : Env → Sto → Out (List SV)) : Prop :=
  ∃ t : TA, (∀ X, Good Γ L X → PA X es t) ∧ ∀ σ H env st S φ Q, EI Γ.K S φ H σ env → SI Γ.K S φ H st → FinP Γ.K S φ H Q (m env st) → t σ H Q
def setSt (σ : L2.St) : List Nat → List V → L2.St
  | i :: is, v :: vs => setSt (σ.set i (some v)) is vs
  | _, _ => σ
section
variable {K : PySem.W.Frag} {E0 : Ent} {S S' : Addr → Prop} {φ φ' : List Addr} {H H' : Hp} {σ : L2.St} {env : Env} {st : Sto}
theorem RepP.mono {T T' : Addr → Prop} {vs : List V} {sv : List SV} (h : RepP K S φ H T vs sv) : (∀ a, T' a → T a) → RepP K S φ H T' vs sv := by
  intro ht
  induction h generalizing T' with
  | nil => exact .nil
  | val r _ ih => exact .val r (ih ht)
  | own n1 n2 n3 h1 h2 _ ih => exact .own (fun q => n1 (ht _ q)) n2 n3 h1 h2 (ih fun b q => q.elim (fun q => .inl (ht b q)) .inr)
theorem RepP.length {T : Addr → Prop} {vs : List V} {sv : List SV} (h : RepP K S φ H T vs sv) : vs.length = sv.length := by
  induction h with
  | nil => rfl
  | val _ _ ih => simp [ih]
  | own _ _ _ _ _ _ ih => simp [ih]
theorem RepP.alloc0 {T : Addr → Prop} {vs : List V} {sv : List SV} {p : Addr} {o : HO} (I : SI K S φ H st) (hp : H p = none) (h : RepP K S φ H T vs sv) : RepP K S φ (upd H p o) T vs sv := by
  induction h with
  | nil => exact .nil
  | val r _ ih => exact .val (r.mono (Stp.alloc0 hp) I) ih
  | own n1 n2 n3 h1 h2 _ ih => exact .own n1 n2 n3 (by rw [upd_ne (ne_of_none h1 hp)]; exact h1) (h2.mono (Stp.alloc0 hp) I) ih
theorem FI.setAll : ∀ {is : List Nat} {vs : List V} {sv : List SV} {σ : L2.St} {env env' : Env} {T : Addr → Prop}, FI K E0 S φ H σ env st → RepP K S φ H T vs sv → (∀ a, E0.H a ≠ none → T a) →
    (∀ (j : Nat) es b, env[j]? = some (some (.own es)) → σ[j]? = some (some (.ref b)) → T b) → setAll env is sv = some env' → FI K E0 S φ H (setSt σ is vs) env' st
  | [], vs, sv, σ, env, env', T, F, r, h1, h2, e => by
    cases sv with
    | nil => cases r; cases e; exact F
    | cons x sv => cases e
  | i :: is, vs, sv, σ, env, env', T, F, r, h1, h2, e => by
    cases r with
    | nil => cases e
    | val r rs =>
      simp only [setSt]
      refine FI.setAll (F.setV r) rs h1 (fun j es b q1 q2 => ?_) e
      rcases set_get q1 with ⟨_, q, _⟩ | ⟨n, q⟩
      · cases q
      · rw [List.getElem?_set_ne n] at q2; exact h2 j es b q q2
    | own n1 n2 n3 g1 g2 rs =>
      simp only [setSt]
      refine FI.setAll (F.setO (Classical.byContradiction fun q => n1 (h1 _ q)) (fun j es q1 q2 => n1 (h2 j es _ q1 q2)) n2 n3 g1 g2) rs (fun a q => .inl (h1 a q)) (fun j es b q1 q2 => ?_) e
      rcases set_get q1 with ⟨rfl, q, hi⟩ | ⟨n, q⟩
      · rw [List.getElem?_set_self (by rw [← F.ei.len]; exact hi)] at q2; cases q2; exact .inr rfl
      · rw [List.getElem?_set_ne n] at q2; exact .inl (h2 j es b q q2)
theorem setAll_len : ∀ {is : List Nat} {sv : List SV} {env env' : Env}, setAll env is sv = some env' → is.length = sv.length
  | [], [], _, _, _ => rfl
  | [], _ :: _, _, _, e => by cases e
  | _ :: _, [], _, _, e => by cases e
  | i :: is, v :: sv, env, env', e => by
    have : setAll (env.set i (some v)) is sv = some env' := e
    simp [setAll_len this]
end
section
variable {Γ : Ctx} {L : LC} {e : Expr}
theorem FinP.bind {α : Type} {K : PySem.W.Frag} {S : Addr → Prop} {φ : List Addr} {H : Hp} {Q : List V → Hp → Prop} {m : Out α} {f : α → Sto → Out (List SV)} (h : FinP K S φ H Q (m.bind f)) : ∃ x st, m = .ok x st ∧ FinP K S φ H Q (f x st) := by
  cases m with
  | ok x st => exact ⟨x, st, rfl, h⟩
  | err => exact h.elim
theorem sp_nil {cf gs} : SP Γ L [] (evP cf gs .nil) :=
  ⟨tNil, fun X _ => pa_nil, fun σ H env st S φ Q E I f => by unfold evP at f; exact f [] H S φ .refl I .nil⟩
theorem sp_v {c : Ex} {ps : Pxs} {es : List Expr} {cf gs} (hst : ∀ env, starEach (e :: es) env = (false, eval e env) :: starEach es env) (h1 : SE Γ L false e (ev cf gs false c)) (h2 : SP Γ L es (evP cf gs ps)) : SP Γ L (e :: es) (evP cf gs (.v c ps)) := by
  obtain ⟨t1, p1, q1⟩ := h1
  obtain ⟨t2, p2, q2⟩ := h2
  refine ⟨tCons t1 t2, fun X g => pa_cons (p1 X g) (p2 X g) (hst _), fun σ H env st S φ Q E I f => ?_⟩
  unfold evP at f
  obtain ⟨d, s1, e1, f1⟩ := f.bind
  obtain ⟨r, s2, e2, f2⟩ := f1.bind
  refine SE.use q1 E I e1 fun v H1 S1 φ1 x1 E1 I1 r1 => ?_
  refine q2 σ H1 env s1 S1 φ1 _ E1 I1 ?_
  rw [e2]
  exact fun vs H2 S2 φ2 x2 I2 rs => f2 _ H2 S2 φ2 (x1.trans x2) I2 (.val (r1.val.mono x2 I1) (rs.mono fun a h => x1.some a h))
theorem sp_o {c : Fx} {ps : Pxs} {es : List Expr} {cf gs} (hst : ∀ env, starEach (e :: es) env = (false, eval e env) :: starEach es env) (h1 : SF Γ L e (evF cf gs c)) (h2 : SP Γ L es (evP cf gs ps)) : SP Γ L (e :: es) (evP cf gs (.o c ps)) := by
  obtain ⟨t1, p1, q1⟩ := h1
  obtain ⟨t2, p2, q2⟩ := h2
  refine ⟨tCons t1 t2, fun X g => pa_cons (p1 X g) (p2 X g) (hst _), fun σ H env st S φ Q E I f => ?_⟩
  unfold evP at f
  obtain ⟨d, s1, e1, f1⟩ := f.bind
  obtain ⟨r, s2, e2, f2⟩ := f1.bind
  refine q1 σ H env st S φ _ E I ?_
  rw [e1]
  intro a ws H1 S1 φ1 x1 I1 hn n1 n2 h1 r1
  refine q2 σ H1 env s1 S1 φ1 _ (E.mono x1 I) I1 ?_
  rw [e2]
  refine fun vs H2 S2 φ2 x2 I2 rs => f2 _ H2 S2 φ2 (x1.trans x2) I2 (.own (fun q => q hn) (fun q => ?_) (fun q => ?_) (x2.keep a _ h1 n2) (r1.mono x2 I1) (rs.mono fun b h => ?_))
  · rcases x2.new a q with q | q
    · exact n1 q
    · rw [h1] at q; cases q
  · obtain ⟨ψ, eψ, hf⟩ := x2.phi
    rw [eψ] at q
    rcases List.mem_append.mp q with q | q
    · exact n2 q
    · have := hf a q; rw [h1] at this; cases this
  · rcases h with h | h
    · exact x1.some b h
    · rw [h, h1]; simp

/-! ### a, b = x, y -/
def noStar : Expr → Bool
  | .Starred _ _ => false
  | _ => true
def nmsB (m : MC) (fb : Str → Bool) (sc : Scope) : List Nat → List Expr → Bool
  | [], [] => true
  | i :: is, .Name x _ :: ts => decide (m.N[i]? = some x) && locB sc x && (fb x || decide (sc.names.lookup x = some .local)) && nmsB m fb sc is ts
  | _, _ => false
def swB (sc : Scope) (is : List Nat) (ts es : List Expr) : Bool := match is, ts, es with
  | [i, j], [.Name x px, .Name y py], [a, b] => decide (i ≠ j) && decide (x ≠ y) && (py.line == px.line) && (sc.names.lookup x == some .local) && (sc.names.lookup y == some .local) && (sc.kind == .function) && noStar a && noStar b && !([a, b].all (foldedForSure 8)) && !([a, b].all (constantsAlone 8))
  | [i, j, l], [.Name x px, .Name y py, .Name z pz], [a, b, c] => decide (i ≠ j) && decide (i ≠ l) && decide (j ≠ l) && decide (x ≠ y) && decide (x ≠ z) && decide (y ≠ z) && (py.line == px.line) && (pz.line == px.line) && (sc.names.lookup x == some .local) && (sc.names.lookup y == some .local) && (sc.names.lookup z == some .local) && (sc.kind == .function) && noStar a && noStar b && noStar c && !([a, b, c].all (foldedForSure 8)) && !([a, b, c].all (constantsAlone 8))
  | _, _, _ => false
def notLocal (sc : Scope) : Expr → Bool
  | .Name x _ => !(sc.names.lookup x == some .local)
  | _ => false
def unB (sc : Scope) (ts es : List Expr) : Bool := !(ts.length == 2 || ts.length == 3) || es.all (foldedForSure 8) || ts.any (notLocal sc)
theorem fm_lt {α β : Type} {f : α → Option β} : ∀ {l : List α}, (∃ x ∈ l, f x = none) → (l.filterMap f).length < l.length
  | [], h => by obtain ⟨x, hx, _⟩ := h; cases hx
  | a :: l, h => by
    have le := List.length_filterMap_le f l
    cases e : f a with
    | none => rw [List.filterMap_cons_none e]; simp only [List.length_cons]; omega
    | some b =>
      rw [List.filterMap_cons_some e]
      obtain ⟨x, hx, hn⟩ := h
      rcases List.mem_cons.mp hx with q | q
      · rw [q, e] at hn; cases hn
      · have := fm_lt (f := f) (l := l) ⟨x, q, hn⟩
        simp only [List.length_cons]; omega
def gNs : List Nat → TGs
  | [] => gNil
  | i :: is => gCons (gName i) (gNs is)
theorem gNs_sem : ∀ {is : List Nat} {vs : List V} {σ : L2.St} {H : Hp} {Q : L2.St → Hp → Prop}, vs.length = is.length → Q (setSt σ is vs) H → gNs is vs σ H Q
  | [], vs, σ, H, Q, hl, h => by
    cases vs with
    | nil => exact ⟨rfl, h⟩
    | cons v vs => cases hl
  | i :: is, vs, σ, H, Q, hl, h => by
    cases vs with
    | nil => cases hl
    | cons v vs => exact ⟨v, vs, rfl, gNs_sem (by simpa using hl) h⟩
theorem pgs_nms (Γok : CtxOk Γ) : ∀ {is : List Nat} {ts : List Expr}, nmsB Γ.m L.fb L.sc is ts = true → ∀ X, Good Γ L X → PGs X ts (gNs is) ∧ (∀ env, (assignEach ts env).length = is.length) ∧ ∀ env, (assignEach ts env).findIdx? (·.1) = none
  | [], [], _, X, g => ⟨pgs_nil, fun _ => rfl, fun _ => rfl⟩
  | i :: is, .Name x p :: ts, h, X, g => by
    have h' : (decide (Γ.m.N[i]? = some x) && locB L.sc x && (L.fb x || decide (L.sc.names.lookup x = some .local)) && nmsB Γ.m L.fb L.sc is ts) = true := h
    simp only [Bool.and_eq_true, Bool.or_eq_true, decide_eq_true_eq] at h'
    obtain ⟨⟨⟨h1, h2⟩, h3⟩, h4⟩ := h'
    obtain ⟨a, b, c⟩ := pgs_nms Γok h4 X g
    have hs : ∀ env, assignEach (.Name x p :: ts) env = (false, assign (.Name x p) env) :: assignEach ts env := fun _ => rfl
    exact ⟨pgs_cons (pg_name (by rw [g.N]; exact Γok.nd) (by rw [g.N]; exact h1) (by rw [g.sc]; exact loc_of h2) (by rw [g.fn, g.sc]; exact h3)) a rfl, fun env => by rw [hs]; simp [b env], fun env => by rw [hs, List.findIdx?_cons]; simp [c env]⟩
theorem sw_un {ts es : List Expr} {kt k2 : Nat} {pt p2 : Pos} {env : PySem.Env} {sc : Scope} (hs : env.scope = sc) (h : unB sc ts es = true) : swappedStores [.Tuple ts kt pt] (.Tuple es k2 p2) env = pure none := by
  unfold unB at h
  rw [Bool.or_eq_true, Bool.or_eq_true] at h
  unfold swappedStores
  dsimp only
  rcases h with (h | h) | h
  · rw [h]; exact if_pos rfl
  · split
    · rfl
    · split
      · rfl
      · split
        all_goals first | rfl | exact if_pos h | (rename_i q; exact absurd h q)
  · obtain ⟨x, hx, hn⟩ := List.any_eq_true.mp h
    split
    · rfl
    · split
      · rfl
      · refine if_pos ?_
        rw [Bool.or_eq_true]
        left
        rw [bne_iff_ne]
        refine Nat.ne_of_lt (fm_lt ⟨x, hx, ?_⟩)
        cases x with
        | Name y p =>
          have e : (env.kindOf y == some .local) = false := by
            unfold Env.kindOf
            rw [hs]
            simpa [notLocal] using hn
          show (if (env.kindOf y == some .local && _) = true then some y else none) = none
          rw [e]; rfl
        | _ => cases hn
theorem kind_of {env : PySem.Env} {sc : Scope} (h : env.scope = sc) (hk : (sc.kind == ScopeKind.function) = true) : (env.blockKind != ScopeKind.function) = false := by
  have e : sc.kind = .function := eq_of_beq hk
  unfold Env.blockKind
  rw [h, e]; rfl
theorem star_any {a : Expr} (h : noStar a = true) : (match a with | .Starred .. => true | _ => false) = false := by
  cases a <;> first | rfl | cases h
theorem sw_2 {x y : Str} {px py : Pos} {a b : Expr} {i j kt k2 : Nat} {pt p2 : Pos} {env : PySem.Env} {sc : Scope} (hs : env.scope = sc) (h : swB sc [i, j] [.Name x px, .Name y py] [a, b] = true) : i ≠ j ∧ sc.names.lookup x = some .local ∧ sc.names.lookup y = some .local ∧ swappedStores [.Tuple [.Name x px, .Name y py] kt pt] (.Tuple [a, b] k2 p2) env = pure (some [x, y]) := by
  simp only [swB, Bool.and_eq_true, decide_eq_true_eq, Bool.not_eq_true'] at h
  obtain ⟨⟨⟨⟨⟨⟨⟨⟨⟨h1, h2⟩, h3⟩, h4⟩, h5⟩, h6⟩, h7⟩, h8⟩, h9⟩, h10⟩ := h
  have k := kind_of hs h6
  refine ⟨h1, eq_of_beq h4, eq_of_beq h5, ?_⟩
  have hx : (env.kindOf x == some .local) = true := by unfold Env.kindOf; rw [hs]; exact h4
  have hy : (env.kindOf y == some .local) = true := by unfold Env.kindOf; rw [hs]; exact h5
  have hd : [x, y].eraseDups = [x, y] := by simp [List.eraseDups_cons, h2, Ne.symm h2]
  unfold swappedStores
  simp only [k, List.length_cons, List.length_nil, List.any_cons, List.any_nil, h9, h10, List.head?_cons, Option.map_some, Option.getD_some, Expr.pos, List.filterMap_cons, List.filterMap_nil, hx, hy, h3, beq_self_eq_true, Bool.and_self, if_true, hd]
  refine (if_neg (by decide)).trans ((if_neg fun q => ?_).trans rfl)
  simp only [Bool.or_eq_true, Bool.or_false] at q
  rcases q with q | q
  · cases a <;> first | (cases h7; done) | (cases q; done)
  · cases b <;> first | (cases h8; done) | (cases q; done)
theorem sw_3 {x y z : Str} {px py pz : Pos} {a b c : Expr} {i j l kt k2 : Nat} {pt p2 : Pos} {env : PySem.Env} {sc : Scope} (hs : env.scope = sc) (h : swB sc [i, j, l] [.Name x px, .Name y py, .Name z pz] [a, b, c] = true) : i ≠ j ∧ i ≠ l ∧ j ≠ l ∧ sc.names.lookup x = some .local ∧ sc.names.lookup y = some .local ∧ sc.names.lookup z = some .local ∧ swappedStores [.Tuple [.Name x px, .Name y py, .Name z pz] kt pt] (.Tuple [a, b, c] k2 p2) env = pure (some [x, y, z]) := by
  simp only [swB, Bool.and_eq_true, decide_eq_true_eq, Bool.not_eq_true'] at h
  obtain ⟨⟨⟨⟨⟨⟨⟨⟨⟨⟨⟨⟨⟨⟨⟨⟨g1, g2⟩, g3⟩, g4⟩, g5⟩, g6⟩, g7⟩, g8⟩, g9⟩, g10⟩, g11⟩, g12⟩, g13⟩, g14⟩, g15⟩, g16⟩, g17⟩ := h
  have k := kind_of hs g12
  refine ⟨g1, g2, g3, eq_of_beq g9, eq_of_beq g10, eq_of_beq g11, ?_⟩
  have hx : (env.kindOf x == some .local) = true := by unfold Env.kindOf; rw [hs]; exact g9
  have hy : (env.kindOf y == some .local) = true := by unfold Env.kindOf; rw [hs]; exact g10
  have hz : (env.kindOf z == some .local) = true := by unfold Env.kindOf; rw [hs]; exact g11
  have hd : [x, y, z].eraseDups = [x, y, z] := by simp [List.eraseDups_cons, g4, g5, g6, Ne.symm g4, Ne.symm g5, Ne.symm g6]
  unfold swappedStores
  simp only [k, List.length_cons, List.length_nil, List.any_cons, List.any_nil, g16, g17, List.head?_cons, Option.map_some, Option.getD_some, Expr.pos, List.filterMap_cons, List.filterMap_nil, hx, hy, hz, g7, g8, beq_self_eq_true, Bool.and_self, if_true, hd]
  refine (if_neg (by decide)).trans ((if_neg fun q => ?_).trans rfl)
  simp only [Bool.or_eq_true, Bool.or_false] at q
  rcases q with q | q | q
  · cases a <;> first | (cases g13; done) | (cases q; done)
  · cases b <;> first | (cases g14; done) | (cases q; done)
  · cases c <;> first | (cases g15; done) | (cases q; done)
theorem FinP.imp {K : PySem.W.Frag} {S : Addr → Prop} {φ : List Addr} {H : Hp} {Q Q' : List V → Hp → Prop} {m : Out (List SV)} (h : FinP K S φ H Q m) (k : ∀ vs H, Q vs H → Q' vs H) : FinP K S φ H Q' m := by
  cases m with
  | ok sv s => exact fun vs H' S' φ' x I r => k _ _ (h vs H' S' φ' x I r)
  | err => exact h
/-- the side-by-side store: what is asked of the values -/
def ParQ (is : List Nat) (Dn : Ends) (σ : L2.St) (vs : List V) (H : Hp) : Prop := vs.length = is.length ∧ Dn.nx (setSt σ is vs) H ∧ ∀ p, H p = none → Dn.nx (setSt σ is vs) (upd H p (.tup vs))
theorem par_ps (Γok : CtxOk Γ) {is : List Nat} {ts es : List Expr} {kt k2 : Nat} {pt p2 pos : Pos} (hn : nmsB Γ.m L.fb L.sc is ts = true) (hz : is.length ≤ 1000) (h : (unB L.sc ts es || swB L.sc is ts es) = true) :
    ∃ tX : TA → TS, (∀ X ta, GoodS Γ L X → PA X es ta → PS X (.Assign [.Tuple ts kt pt] (.Tuple es k2 p2) pos) (tX ta)) ∧ ∀ (t : TA) Dn σ H, (∀ Q : List V → Hp → Prop, (∀ vs H, ParQ is Dn σ vs H → Q vs H) → t σ H Q) → tX t Dn σ H := by
  rw [Bool.or_eq_true] at h
  rcases h with h | h
  · refine ⟨fun ta => tAsg (tTup ta) (gTup Γ.K is.length (gNs is)), fun X ta g ha => ?_, fun t Dn σ H q => q _ fun vs H1 z => ?_⟩
    · obtain ⟨a, b, c⟩ := pgs_nms Γok hn X g.toGood
      rw [← g.K]
      exact ps_asg (pe_tup ha) (pg_tup g.calm a (b _) (c _)) rfl (sw_un g.sc h) rfl
    · obtain ⟨z1, z2, z3⟩ := z
      exact ⟨by rw [z1]; exact Nat.le_trans hz (by decide), fun p hp => ⟨p, vs, rfl, .inl (.inl upd_same), z1, gNs_sem z1 (z3 p hp)⟩⟩
  · unfold swB at h
    split at h
    · rename_i i j x px y py a b
      have h' : swB L.sc [i, j] [.Name x px, .Name y py] [a, b] = true := h
      refine ⟨fun ta => tPar i j ta, fun X ta g ha => ?_, fun t Dn σ H q => q _ fun vs H1 z => ?_⟩
      · obtain ⟨g1, g2, g3, g4⟩ := sw_2 (kt := kt) (pt := pt) (k2 := k2) (p2 := p2) (env := X.env) g.sc h'
        have n1 : nmsB Γ.m L.fb L.sc [i, j] [.Name x px, .Name y py] = true := hn
        simp only [nmsB, Bool.and_eq_true, decide_eq_true_eq] at n1
        exact ps_par g.calm (by rw [g.N]; exact Γok.nd) (by rw [g.N]; exact n1.1.1.1) (by rw [g.N]; exact n1.2.1.1.1) g1 (by rw [g.sc]; exact g2) (by rw [g.sc]; exact g3) ha g4 rfl
      · obtain ⟨z1, z2, z3⟩ := z
        match vs, z1, z2 with
        | [v, w], _, z2 => exact ⟨v, w, rfl, z2⟩
    · rename_i i j l x px y py z pz a b c
      have h' : swB L.sc [i, j, l] [.Name x px, .Name y py, .Name z pz] [a, b, c] = true := h
      refine ⟨fun ta => tPar3 i j l ta, fun X ta g ha => ?_, fun t Dn σ H q => q _ fun vs H1 z => ?_⟩
      · obtain ⟨g1, g2, g3, g4, g5, g6, g7⟩ := sw_3 (kt := kt) (pt := pt) (k2 := k2) (p2 := p2) (env := X.env) g.sc h'
        have n1 : nmsB Γ.m L.fb L.sc [i, j, l] [.Name x px, .Name y py, .Name z pz] = true := hn
        simp only [nmsB, Bool.and_eq_true, decide_eq_true_eq] at n1
        exact ps_par3 g.calm (by rw [g.N]; exact Γok.nd) (by rw [g.N]; exact n1.1.1.1) (by rw [g.N]; exact n1.2.1.1.1) (by rw [g.N]; exact n1.2.2.1.1.1) g1 g2 g3 (by rw [g.sc]; exact g4) (by rw [g.sc]; exact g5) (by rw [g.sc]; exact g6) ha g7 rfl
      · obtain ⟨z1, z2, z3⟩ := z
        match vs, z1, z2 with
        | [v, w, u], _, z2 => exact ⟨v, w, u, rfl, z2⟩
    · cases h
theorem sx_par (Γok : CtxOk Γ) {is : List Nat} {ts es : List Expr} {kt k2 : Nat} {pt p2 pos : Pos} {cf gs} {ps : Pxs} (hn : nmsB Γ.m L.fb L.sc is ts = true) (hz : is.length ≤ 1000) (h : (unB L.sc ts es || swB L.sc is ts es) = true) (hP : SP Γ L es (evP cf gs ps)) :
    SX Γ L (.Assign [.Tuple ts kt pt] (.Tuple es k2 p2) pos) fun env s => (evP cf gs ps env s).bind fun vs s => match setAll env is vs with
    | some env' => .ok (.nx env') s
    | none => .err := by
  obtain ⟨tX, pX, qX⟩ := par_ps (kt := kt) (pt := pt) (k2 := k2) (p2 := p2) (pos := pos) Γok hn hz h
  obtain ⟨t, p, q⟩ := hP
  refine ⟨tX t, fun X g => pX X t g (p X g.toGood), fun E0 σ H env st S φ Dn F f => qX t Dn σ H fun Q hQ => ?_⟩
  obtain ⟨sv, s1, e1, f1⟩ := f.bind
  refine q σ H env st S φ Q F.ei F.si ?_
  rw [e1]
  intro vs H1 S1 φ1 x1 I1 r
  cases ea : setAll env is sv with
  | none => rw [ea] at f1; exact False.elim f1
  | some env1 =>
    rw [ea] at f1
    have F1 := F.go x1 I1
    have own : ∀ (j : Nat) es b, env[j]? = some (some (.own es)) → σ[j]? = some (some (.ref b)) → H b ≠ none := fun j es b h1 h2 => by
      obtain ⟨c, ws, g1, g2, _⟩ := F.ei.own j es h1
      rw [h2] at g1; cases g1; rw [g2]; simp
    refine hQ vs H1 ⟨by rw [r.length, setAll_len ea], f1 _ H1 S1 φ1 (x1.kp F.si) (F1.setAll r (fun a h => F.ent.some a h) own ea), fun pp hp => ?_⟩
    have x2 : Stp S1 φ1 H1 S1 φ1 (upd H1 pp (.tup vs)) := Stp.alloc0 hp
    exact f1 _ _ S1 φ1 ((x1.kp F.si).trans (x2.kp I1)) ((F1.go x2 (I1.alloc0 hp)).setAll (r.alloc0 I1 hp) (fun a h => F.ent.some a h) own ea)

/-! ### what matches -/
section
variable (m : MC)
def mP (sc : Scope) : Pxs → List Expr → Bool
  | .nil, es => match es with
    | [] => true
    | _ => false
  | .v c ps, es => match es with
    | e :: es => mE m c sc e && mP sc ps es
    | _ => false
  | .o f ps, es => match es with
    | e :: es => mF m f sc e && mP sc ps es
    | _ => false
def mtN (fb : Str → Bool) (sc : Scope) (i : Nat) (x : Str) : Bool := decide (m.N[i]? = some x) && locB sc x && (fb x || decide (sc.names.lookup x = some .local))
mutual
def mS (fb : Str → Bool) (sc : Scope) : Sm → Stmt → Bool
  | .asg tg c, s => match s with
    | .Assign [t] v _ => if isLcE v = true then (match tg, c, t with
      | .nm i, .fz f, .Name x _ => mtN m fb sc i x && mF m f sc v
      | _, _, _ => false) else mE m c sc v && mT m fb sc tg t && (match t with
        | .Name _ _ => true
        | .Tuple _ _ _ => !isTupE v
        | _ => false)
    | _ => false
  | .own i f, s => match s with
    | .Assign [.Name x _] v _ => mtN m fb sc i x && mF m f sc v
    | _ => false
  | .par is ps, s => match s with
    | .Assign [.Tuple ts _ _] (.Tuple es _ _) _ => nmsB m fb sc is ts && decide (is.length ≤ 1000) && (unB sc ts es || swB sc is ts es) && mP m sc ps es
    | _ => false
  | .ite c a b, s => match s with
    | .If t x y _ => mE m c sc t && tstB c && mSs fb sc a x && mSs fb sc b y
    | _ => false
  | .for tg it b, s => match s with
    | .For t i x [] _ => mI m it sc t i && mT m fb sc tg t && mSs fb sc b x
    | _ => false
  | .whl c b, s => match s with
    | .While t x [] _ => mE m c sc t && tstB c && mSs fb sc b x
    | _ => false
  | .ret c, s => match s with
    | .Return (some e) _ => mE m c sc e
    | _ => false
  | .retN, s => match s with
    | .Return none _ => true
    | _ => false
  | .pass, s => match s with
    | .Pass _ => true
    | _ => false
  | .brk, s => match s with
    | .Break _ => true
    | _ => false
  | .cnt, s => match s with
    | .Continue _ => true
    | _ => false
  | .ex c, s => match s with
    | .Expr e _ => mE m c sc e && !isLcE e
    | _ => false
  | .app i c, s => match s with
    | .Expr (.Call (.Attribute (.Name x _) a apos) [y] [] cpos) _ => decide (m.N[i]? = some x) && visB sc x && okN x && decide (a = ("append" : Str)) && (apos.endLine == cpos.line) && mE m c sc y
    | _ => false
  | .ext i c, s => match s with
    | .Expr (.Call (.Attribute (.Name x _) a apos) [y] [] cpos) _ => decide (m.N[i]? = some x) && visB sc x && okN x && decide (a = ("extend" : Str)) && (apos.endLine == cpos.line) && mE m c sc y
    | _ => false
  | .setV i k c, s => match s with
    | .Assign [.Subscript (.Name x _) y _] v _ => decide (m.N[i]? = some x) && visB sc x && okN x && !isLcE v && mE m k sc y && mE m c sc v
    | _ => false
  | .augV _ _ _ _, _ => true
  | .pop _ _ _, _ => true
  | .aug _ _ _, _ => true
  | .never, _ => true
def mSs (fb : Str → Bool) (sc : Scope) : Sms → List Stmt → Bool
  | .nil, ss => match ss with
    | [] => true
    | _ => false
  | .c c cs, ss => match ss with
    | s :: ss => mS fb sc c s && mSs fb sc cs ss
    | _ => false
end
end
theorem starE {m : MC} {c : Ex} {sc : Scope} {e : Expr} {es : List Expr} (h : mE m c sc e = true) (env : PySem.Env) : starEach (e :: es) env = (false, eval e env) :: starEach es env := star_of h
theorem starF {m : MC} {c : Fx} {sc : Scope} {e : Expr} {es : List Expr} (h : mF m c sc e = true) (env : PySem.Env) : starEach (e :: es) env = (false, eval e env) :: starEach es env :=
  starE (c := .fz c) (by unfold mE; exact h) env
theorem sP (Γok : CtxOk Γ) : ∀ {ps : Pxs} {es : List Expr}, mP Γ.m L.sc ps es = true → SP Γ L es (evP Γ.cf Γ.gs ps)
  | .nil, es, h => by
    unfold mP at h
    split at h
    · exact sp_nil
    · cases h
  | .v c ps, es, h => by
    unfold mP at h
    split at h
    · rw [Bool.and_eq_true] at h
      exact sp_v (starE h.1) (sE Γok c L false _ h.1) (sP Γok h.2)
    · cases h
  | .o f ps, es, h => by
    unfold mP at h
    split at h
    · rw [Bool.and_eq_true] at h
      exact sp_o (starF h.1) (sF Γok f L _ h.1) (sP Γok h.2)
    · cases h
theorem SX.of {s : Stmt} {m m' : Env → Sto → Out Flow} (h : SX Γ L s m) (e : ∀ env s, m' env s = m env s) : SX Γ L s m' := by
  have : m' = m := by funext env s; exact e env s
  rw [this]; exact h
theorem mtN_of {i : Nat} {x : Str} (h : mtN Γ.m L.fb L.sc i x = true) : Γ.m.N[i]? = some x ∧ locB L.sc x = true ∧ (L.fb x = true ∨ L.sc.names.lookup x = some .local) := by
  unfold mtN at h
  simp only [Bool.and_eq_true, Bool.or_eq_true, decide_eq_true_eq] at h
  exact ⟨h.1.1, h.1.2, h.2⟩
theorem asg_sub {m : MC} {c : Ex} {sc : Scope} {y : Expr} {x : Str} {p sp : Pos} (h : mE m c sc y = true) : ∀ env v, assign (.Subscript (.Name x p) y sp) env v = (do
      let ov ← holding [v] (eval (.Name x p) env)
      let iv ← holding [v, ov] (eval y env)
      standAt sp
      holding [v, ov, iv] (setItem ov iv v)
      release [v, ov, iv] []) := fun env v => by
  cases y with
  | Slice l u s p =>
    exfalso
    cases c with
    | fz f => unfold mE at h; cases f <;> simp [mF] at h
    | alloc f => unfold mE at h; cases f <;> simp [mF] at h
    | _ => simp [mE] at h
  | _ => rfl
mutual
theorem sS (Γok : CtxOk Γ) : ∀ (c : Sm) (L : LC) (s : Stmt), mS Γ.m L.fb L.sc c s = true → SX Γ L s (exec Γ.cf Γ.gs c)
  | .asg tg c, L, s, h => by
    unfold mS at h
    split at h
    · rename_i t v pos
      split at h
      · split at h
        · rename_i i f x px
          rw [Bool.and_eq_true] at h
          obtain ⟨h1, h2, h3⟩ := mtN_of h.1
          refine (sx_fz (sfa_of Γok h1 h2 h3 h.2)).of fun env s => ?_
          unfold exec ev
          cases evF Γ.cf Γ.gs f env s <;> rfl
        · cases h
      · rename_i hl
        simp only [Bool.and_eq_true] at h
        have hl : isLcE v = false := by simpa using hl
        have hG := sg_of Γok h.1.2
        have hE := sE Γok c L false v h.1.1
        have h2 := h.2
        refine SX.of ?_ fun env s => by unfold exec; rfl
        split at h2
        · exact sx_asg hG hE (asg_name Γok hl)
        · exact sx_asg hG hE (asg_tup (by simpa using h2) hl)
        · cases h2
    · cases h
  | .own i f, L, s, h => by
    unfold mS at h
    split at h
    · rw [Bool.and_eq_true] at h
      obtain ⟨h1, h2, h3⟩ := mtN_of h.1
      exact (sx_own (sfa_of Γok h1 h2 h3 h.2)).of fun env s => by unfold exec; rfl
    · cases h
  | .par is ps, L, s, h => by
    unfold mS at h
    split at h
    · simp only [Bool.and_eq_true, decide_eq_true_eq] at h
      exact (sx_par Γok h.1.1.1 h.1.1.2 h.1.2 (sP Γok h.2)).of fun env s => by unfold exec; rfl
    · cases h
  | .ite c a b, L, s, h => by
    unfold mS at h
    split at h
    · simp only [Bool.and_eq_true] at h
      exact (sx_ite (sT Γok c L _ h.1.1.1 h.1.1.2) (sSs Γok a L _ h.1.2) (sSs Γok b L _ h.2)).of fun env s => by unfold exec; rfl
    · cases h
  | .for tg it b, L, s, h => by
    unfold mS at h
    split at h
    · simp only [Bool.and_eq_true] at h
      exact (sx_for (sI Γok it L false _ _ h.1.1) (sg_of Γok h.1.2) (sSs Γok b L _ h.2) (folded_of h.1.1)).of fun env s => by unfold exec; rfl
    · cases h
  | .whl c b, L, s, h => by
    unfold mS at h
    split at h
    · simp only [Bool.and_eq_true] at h
      exact (sx_while (sT Γok c L _ h.1.1 h.1.2) (sSs Γok b L _ h.2)).of fun env s => by unfold exec; rfl
    · cases h
  | .ret c, L, s, h => by
    unfold mS at h
    split at h
    · exact (sx_ret (sE Γok c L false _ h)).of fun env s => by unfold exec; rfl
    · cases h
  | .retN, L, s, h => by
    unfold mS at h
    split at h
    · exact sx_retN.of fun env s => by unfold exec; rfl
    · cases h
  | .pass, L, s, h => by
    unfold mS at h
    split at h
    · exact sx_pass.of fun env s => by unfold exec; rfl
    · cases h
  | .brk, L, s, h => by
    unfold mS at h
    split at h
    · exact sx_brk.of fun env s => by unfold exec; rfl
    · cases h
  | .cnt, L, s, h => by
    unfold mS at h
    split at h
    · exact sx_cnt.of fun env s => by unfold exec; rfl
    · cases h
  | .ex c, L, s, h => by
    unfold mS at h
    split at h
    · rw [Bool.and_eq_true] at h
      exact (sx_ex (by simpa using h.2) (sE Γok c L false _ h.1)).of fun env s => by unfold exec; rfl
    · cases h
  | .app i c, L, s, h => by
    unfold mS at h
    split at h
    · simp only [Bool.and_eq_true, decide_eq_true_eq] at h
      obtain ⟨⟨⟨⟨⟨h1, h2⟩, h3⟩, h4⟩, h5⟩, h6⟩ := h
      subst h4
      exact (sx_app h1 h2 h3 h5 (fun env r => star_of h6) (sE Γok c L false _ h6)).of fun env s => by unfold exec; rfl
    · cases h
  | .ext i c, L, s, h => by
    unfold mS at h
    split at h
    · simp only [Bool.and_eq_true, decide_eq_true_eq] at h
      obtain ⟨⟨⟨⟨⟨h1, h2⟩, h3⟩, h4⟩, h5⟩, h6⟩ := h
      subst h4
      exact (sx_ext h1 h2 h3 h5 (fun env r => star_of h6) (sE Γok c L true _ h6)).of fun env s => by unfold exec; rfl
    · cases h
  | .setV i k c, L, s, h => by
    unfold mS at h
    split at h
    · simp only [Bool.and_eq_true, decide_eq_true_eq] at h
      obtain ⟨⟨⟨⟨⟨h1, h2⟩, h3⟩, h4⟩, h5⟩, h6⟩ := h
      exact (sx_setV h1 h2 h3 (by simpa using h4) (asg_sub h5) (sE Γok c L false _ h6) (sE Γok k L true _ h5)).of fun env s => by unfold exec; rfl
    · cases h
  | .augV _ _ _ _, L, s, h => sx_never fun env s => by unfold exec; rfl
  | .pop _ _ _, L, s, h => sx_never fun env s => by unfold exec; rfl
  | .aug _ _ _, L, s, h => sx_never fun env s => by unfold exec; rfl
  | .never, L, s, h => sx_never fun env s => by unfold exec; rfl
theorem sSs (Γok : CtxOk Γ) : ∀ (c : Sms) (L : LC) (s : List Stmt), mSs Γ.m L.fb L.sc c s = true → SXs Γ L s (execs Γ.cf Γ.gs c)
  | .nil, L, s, h => by
    unfold mSs at h
    split at h
    · have e : execs Γ.cf Γ.gs .nil = fun env s => .ok (.nx env) s := by funext env s; unfold execs; rfl
      rw [e]; exact sxs_nil
    · cases h
  | .c c cs, L, s, h => by
    unfold mSs at h
    split at h
    · rw [Bool.and_eq_true] at h
      have e : execs Γ.cf Γ.gs (.c c cs) = fun env st => (exec Γ.cf Γ.gs c env st).bind fun fl s => match fl with
        | .nx env' => execs Γ.cf Γ.gs cs env' s
        | .ret d => .ok (.ret d) s
        | .bk env' => .ok (.bk env') s
        | .ct env' => .ok (.ct env') s := by
        funext env s
        (simp only [execs]) <;> rfl
      rw [e]; exact sxs_cons (sS Γok c L _ h.1) (sSs Γok cs L _ h.2)
    · cases h
end
end
end PV
set_option maxRecDepth 100000
set_option maxHeartbeats 4000000
/-! Every def keeps its promise, at every level. -/
namespace PV
open PySem PySem.Spec PyProof.Rows L2
structure PD where
  name : Str
  params : Arguments
  body : List Stmt
  scope : Scope
  fn : Fn
def sigs (ds : List PD) : List (Str × Nat) := ds.map fun d => (d.name, d.fn.ps.length)
def fns (ds : List PD) : List Fn := ds.map PD.fn
def okD (sg : List (Str × Nat)) (gn fr : List Str) (d : PD) : Bool := C8.scC d.fn.N d.fn.ps d.scope && mSs ⟨d.fn.N, sg, gn, fr⟩ (fun _ => true) d.scope d.fn.body d.body
def BindOk (d : PD) : Prop := ∀ (kV doc pm : Value) (an : Option Addr) (cdv ct : Value) (us : List Value), us.length = d.fn.ps.length → bindArgs (PySem.W.fnOf d.name d.name d.params d.body d.scope .none kV doc pm an cdv ct) ⟨us, []⟩ = pure (d.fn.ps.zip us)
structure ProgOk (P : Program) (w : World) (K : PySem.W.Frag) (mg : Str → Option Value) (base : Heap) (ds : List PD) (gs : List D) (gn fr : List Str) : Prop where
  def_ : ∀ (i : Nat) d, ds[i]? = some d → ∃ a fd, mg d.name = some (.ref a) ∧ FunD K d.name d.name d.params d.body d.scope [] [] a fd
  bind : ∀ d ∈ ds, BindOk d
  ok : ∀ d ∈ ds, okD (sigs ds) gn fr d = true
  gl : ∀ (k : Nat) x d, gn[k]? = some x → gs[k]? = some d → ∃ v u, mg x = some u ∧ RelV v u ∧ Rep K (fun _ => False) [] (fun _ => none) v d
  fr : ∀ x ∈ fr, mg x = none
section
variable {P : Program} {w : World} {K : PySem.W.Frag} {mg : Str → Option Value} {base : Heap} {ds : List PD} {gs : List D} {gn fr : List Str}
theorem startE_get {n i : Nat} {es : List D} {x : SV} (h : (startE n es)[i]? = some (some x)) : ∃ d, x = .val d ∧ es[i]? = some d := by
  unfold startE at h
  by_cases hi : i < es.length
  · rw [List.getElem?_append_left (by simpa using hi), List.getElem?_map] at h
    cases e : es[i]? with
    | none => rw [e] at h; cases h
    | some d => rw [e] at h; cases h; exact ⟨d, rfl, rfl⟩
  · rw [List.getElem?_append_right (by simpa using Nat.le_of_not_lt hi), List.getElem?_replicate] at h
    split at h <;> cases h
theorem start_get {N : List Str} {i : Nat} {vs : List V} {v : V} (h : vs[i]? = some v) : (start N vs)[i]? = some (some v) := by
  unfold L2.start
  have hi : i < vs.length := (List.getElem?_eq_some_iff.mp h).1
  rw [List.getElem?_append_left (by simpa using hi), List.getElem?_map, h]
  rfl
theorem prog_ok (h : ProgOk P w K mg base ds gs gn fr) : ∀ (n i : Nat) (d : PD), ds[i]? = some d → ∀ a fd, FunD K d.name d.name d.params d.body d.scope [] [] a fd → FnOk P w K mg base CX0 n a fd d.fn.ps (spF K (callF (fns ds) gs n) i)
  | 0, i, d, hi, a, fd, F => ⟨fun vs H Q E ⟨_, _, _, _, _, _, f⟩ => False.elim f, fun _ _ _ _ _ _ _ _ _ _ _ _ _ ⟨_, _, _, _, _, _, f⟩ => False.elim f⟩
  | n + 1, i, d, hi, a, fd, F => by
    have hd : d ∈ ds := List.mem_of_getElem? hi
    have ok := h.ok d hd
    unfold okD at ok
    rw [Bool.and_eq_true] at ok
    have S := C8.fnScope_by ok.1
    have hf : (fns ds)[i]? = some d.fn := by unfold fns; rw [List.getElem?_map, hi]; rfl
    have call : ∀ es st, callF (fns ds) gs (n + 1) i es st = if es.length = d.fn.ps.length then retOf (execs (callF (fns ds) gs n) gs d.fn.body (startE d.fn.N.length es) st) else .err := fun es st => by
      show (match (fns ds)[i]? with
        | some f => if es.length = f.ps.length then retOf (execs (callF (fns ds) gs n) gs f.body (startE f.N.length es) st) else .err
        | none => .err) = _
      rw [hf]
    refine F.ok S (fun vs H Q E hs => ?_) fun cdv A outer s H vs Q E hr hs => ?_
    · obtain ⟨S0, φ, st, es, I, r, f⟩ := hs
      rw [call] at f
      by_cases hl : es.length = d.fn.ps.length
      · rw [r.length, hl]
      · rw [if_neg hl] at f; exact False.elim f
    · obtain ⟨S0, φ, st, es, I, r, f⟩ := hs
      rw [call] at f
      by_cases hl : es.length = d.fn.ps.length
      rotate_left
      · rw [if_neg hl] at f; exact False.elim f
      rw [if_pos hl] at f
      let Γ : Ctx := ⟨P, w, K, mg, base, n, callF (fns ds) gs n, gs, ⟨d.fn.N, sigs ds, gn, fr⟩⟩
      have Γok : CtxOk Γ := by
        refine ⟨S.nd, fun j x m hj => ?_, h.gl, h.fr⟩
        have hj' : (ds.map fun d => (d.name, d.fn.ps.length))[j]? = some (x, m) := hj
        rw [List.getElem?_map] at hj'
        cases e : ds[j]? with
        | none => rw [e] at hj'; cases hj'
        | some d2 =>
          rw [e] at hj'
          cases hj'
          obtain ⟨a2, fd2, g1, F2⟩ := h.def_ j d2 e
          exact ⟨a2, fd2, d2.fn.ps, g1, F2.kp, F2.bindsN (h.bind d2 (List.mem_of_getElem? e)), prog_ok h n j d2 e a2 fd2 F2⟩
      obtain ⟨t, p, q⟩ := sSs Γok d.fn.body ⟨d.scope, fun _ => true⟩ d.body ok.2
      refine ⟨t, PSs.nox (p _ ⟨⟨rfl, rfl, rfl, rfl, rfl, rfl, rfl, hr, rfl, rfl⟩, rfl⟩), ?_⟩
      have hN : d.fn.ps.length ≤ d.fn.N.length := by have := congrArg List.length S.pre; rw [List.length_take] at this; omega
      have F0 : FI K ⟨S0, φ, H⟩ S0 φ H (start d.fn.N vs) (startE d.fn.N.length es) st := by
        refine ⟨⟨?_, fun j e hj => ?_, fun j e hj => ?_, fun j l e e' b hj _ _ _ => ?_⟩, I, .refl, fun j e b hj _ => ?_⟩
        · unfold L2.start startE; simp [r.length]
        · obtain ⟨e', q1, q2⟩ := startE_get hj
          cases q1
          obtain ⟨v, g1, g2⟩ := r.get q2
          exact ⟨v, start_get g1, g2⟩
        · obtain ⟨_, q1, _⟩ := startE_get hj; cases q1
        · obtain ⟨_, q1, _⟩ := startE_get hj; cases q1
        · obtain ⟨_, q1, _⟩ := startE_get hj; cases q1
      refine q ⟨S0, φ, H⟩ (start d.fn.N vs) H _ st S0 φ _ F0 ?_
      show FinX K ⟨S0, φ, H⟩ S0 φ H _ (execs (callF (fns ds) gs n) gs d.fn.body (startE d.fn.N.length es) st)
      cases ex : execs (callF (fns ds) gs n) gs d.fn.body (startE d.fn.N.length es) st with
      | err => rw [ex] at f; exact f
      | ok fl s1 =>
        rw [ex] at f
        cases fl with
        | nx env' => exact fun σ' H' S' φ' k F' => f .non H' S' φ' F'.ent F'.si (.inl .non)
        | ret e => exact fun v H' S' φ' x I' r' => f v H' S' φ' x I' (.inl r')
        | bk env' => exact False.elim f
        | ct env' => exact False.elim f
/-- the law's promise, where the evaluator says True -/
theorem law_sp {n i : Nat} {H : Hp} {a : Addr} {ns : List Int} {st' : Sto} (e : callF (fns ds) gs n i [.rol (ns.map D.int)] [] = .ok (.bl true) st') (hS : SqL K H a (ns.map V.int)) :
    spF K (callF (fns ds) gs n) i [.ref a] H (fun v _ => v = .bl true) fun _ _ _ => False := by
  have hints : ∀ {S : Addr → Prop} {φ : List Addr} {H : Hp} (l : List Int), RepL K S φ H (l.map V.int) (l.map D.int) := fun {S φ H} l => by
    induction l with
    | nil => exact .nil
    | cons x l ih => exact .cons (.int x) ih
  refine ⟨fun b => b = a ∧ H b ≠ none, [], [], [.rol (ns.map D.int)], ⟨fun b hb => hb.2, fun b hb => (by cases hb), rfl, .nil, fun n b ds h => (by cases n <;> cases h)⟩, .cons (.rol ?_ (hints ns)) .nil, ?_⟩
  · rcases hS with h | h
    · refine .inl ⟨⟨rfl, ?_⟩, h⟩
      rcases h with h | ⟨o, h⟩ <;> rw [h] <;> simp
    · exact .inr h
  · rw [e]
    exact fun v H' S' φ' _ _ r => r.rd0.bl
end
end PV
set_option maxRecDepth 100000
set_option maxHeartbeats 4000000
/-! The evaluator's equations, for simp. -/
namespace PV
open PySem
section
variable {cf : Nat → List D → Sto → Out D} {gs : List D} {o : Bool} {env : Env} {s : Sto}
@[simp] theorem ok_bind {α β : Type} {a : α} {s : Sto} {f : α → Sto → Out β} : (Out.ok a s).bind f = f a s := id rfl
@[simp] theorem err_bind {α β : Type} {f : α → Sto → Out β} : (Out.err : Out α).bind f = .err := id rfl
@[simp] theorem lift_some {α : Type} {a : α} : lift (some a) s = .ok a s := id rfl
@[simp] theorem lift_none {α : Type} : lift (none : Option α) s = .err := id rfl
def rdV (o : Bool) (x : Option (Option SV)) (s : Sto) : Out D := match x with
  | some (some (.val d)) => .ok d s
  | some (some (.own ds)) => if o = true then .ok (.lst ds) s else .err
  | _ => .err
@[simp] theorem rdV_val {d : D} : rdV o (some (some (.val d))) s = .ok d s := id rfl
@[simp] theorem rdV_own {ds : List D} : rdV true (some (some (.own ds))) s = .ok (.lst ds) s := id rfl
@[simp] theorem ev_var {i : Nat} : ev cf gs o (.var i) env s = rdV o env[i]? s := by unfold ev rdV; rfl
@[simp] theorem ev_int {i : Int} : ev cf gs o (.int i) env s = .ok (.int i) s := by unfold ev; rfl
@[simp] theorem ev_str {x : Str} : ev cf gs o (.str x) env s = .ok (.str x) s := by unfold ev; rfl
@[simp] theorem ev_bl {b : Bool} : ev cf gs o (.bl b) env s = .ok (.bl b) s := by unfold ev; rfl
@[simp] theorem ev_non : ev cf gs o .non env s = .ok .non s := by unfold ev; rfl
@[simp] theorem ev_gl {k : Nat} : ev cf gs o (.gl k) env s = lift gs[k]? s := by unfold ev; rfl
@[simp] theorem ev_tup {es : Exs} : ev cf gs o (.tup es) env s = (evL cf gs false es env s).bind fun ds s => .ok (.tup ds) s := by unfold ev; rfl
@[simp] theorem ev_fz {f : Fx} : ev cf gs o (.fz f) env s = (evF cf gs f env s).bind fun ds s => .ok (.lst ds) s := by unfold ev; rfl
@[simp] theorem ev_alloc {f : Fx} : ev cf gs o (.alloc f) env s = (evF cf gs f env s).bind fun ds s => .ok (.loc s.length) (s ++ [.lst ds]) := by unfold ev; rfl
@[simp] theorem ev_bin {op : BOp} {a b : Ex} : ev cf gs o (.bin op a b) env s = (ev cf gs true a env s).bind fun x s => (ev cf gs true b env s).bind fun y s => lift (binD op (deref s x) (deref s y)) s := by (conv => lhs; unfold ev) <;> rfl
@[simp] theorem ev_neg {a : Ex} : ev cf gs o (.neg a) env s = (ev cf gs true a env s).bind fun x s => match x with
    | .int i => .ok (.int (-i)) s
    | _ => .err := by (conv => lhs; unfold ev) <;> rfl
@[simp] theorem ev_not {a : Ex} : ev cf gs o (.not a) env s = (ev cf gs true a env s).bind fun x s => (truthS s x).bind fun b s => .ok (.bl (!b)) s := by (conv => lhs; unfold ev) <;> rfl
@[simp] theorem ev_cmp {op : COp} {a b : Ex} : ev cf gs o (.cmp op a b) env s = (ev cf gs true a env s).bind fun x s => (ev cf gs true b env s).bind fun y s => (lift (cmpD op (deref s x) (deref s y)) s).bind fun b s => .ok (.bl b) s := by (conv => lhs; unfold ev) <;> rfl
@[simp] theorem ev_chn {op op' : COp} {a b c : Ex} : ev cf gs o (.chn op op' a b c) env s = (ev cf gs true a env s).bind fun x s => (ev cf gs true b env s).bind fun y s => (lift (cmpD op (deref s x) (deref s y)) s).bind fun t s =>
    if t = true then (ev cf gs true c env s).bind fun z s => (lift (cmpD op' (deref s y) (deref s z)) s).bind fun b s => .ok (.bl b) s else .ok (.bl false) s := by (conv => lhs; unfold ev) <;> rfl
@[simp] theorem ev_bop {and : Bool} {es : Exs} : ev cf gs o (.bop and es) env s = evB cf gs o and es env s := by (conv => lhs; unfold ev) <;> rfl
@[simp] theorem ev_ite {c a b : Ex} : ev cf gs o (.ite c a b) env s = (ev cf gs true c env s).bind fun x s => (truthS s x).bind fun t s => if t = true then ev cf gs false a env s else ev cf gs false b env s := by (conv => lhs; unfold ev) <;> rfl
@[simp] theorem ev_idx {a i : Ex} : ev cf gs o (.idx a i) env s = (ev cf gs true a env s).bind fun x s => (ev cf gs true i env s).bind fun y s => lift (idxD (deref s x) y) s := by (conv => lhs; unfold ev) <;> rfl
@[simp] theorem ev_slc {a : Ex} {lo hi : OEx} : ev cf gs o (.slc a lo hi) env s = (ev cf gs true a env s).bind fun x s => (evO cf gs lo env s).bind fun l s => (evO cf gs hi env s).bind fun h s => lift (slcD (deref s x) l h) s := by (conv => lhs; unfold ev) <;> rfl
@[simp] theorem ev_rev {a : Ex} : ev cf gs o (.rev a) env s = (ev cf gs true a env s).bind fun x s => lift (revD (deref s x)) s := by (conv => lhs; unfold ev) <;> rfl
@[simp] theorem ev_call {f : Nat} {es : Exs} : ev cf gs o (.call f es) env s = (evL cf gs true es env s).bind fun ds s => (cf f ds s).bind fun d s =>
    if borrows env es = true then (if nolst? d = true ∧ nolstS? s = true then .ok d s else .err) else .ok d s := by (conv => lhs; unfold ev) <;> rfl
@[simp] theorem ev_blt {b : Blt} {es : Exs} : ev cf gs o (.blt b es) env s = (evL cf gs true es env s).bind fun ds s => lift (bltD b (ds.map (deref s))) s := by (conv => lhs; unfold ev) <;> rfl
@[simp] theorem ev_isi {e : Ex} {t : Ty} : ev cf gs o (.isi e t) env s = (ev cf gs true e env s).bind fun x s => (lift (isiD (deref s x) t) s).bind fun b s => .ok (.bl b) s := by (conv => lhs; unfold ev) <;> rfl
@[simp] theorem evL_nil : evL cf gs o .nil env s = .ok [] s := by unfold evL; rfl
@[simp] theorem evL_c {e : Ex} {es : Exs} : evL cf gs o (.c e es) env s = (ev cf gs o e env s).bind fun d s => (evL cf gs o es env s).bind fun ds s => .ok (d :: ds) s := by (conv => lhs; unfold evL) <;> rfl
@[simp] theorem evB_one {and : Bool} {e : Ex} : evB cf gs o and (.c e .nil) env s = ev cf gs o e env s := by unfold evB; rfl
@[simp] theorem evB_c {and : Bool} {e e' : Ex} {es : Exs} : evB cf gs o and (.c e (.c e' es)) env s = (ev cf gs o e env s).bind fun x s => (truthS s x).bind fun t s => if t = and then evB cf gs o and (.c e' es) env s else .ok x s := by (conv => lhs; unfold evB) <;> rfl
@[simp] theorem evO_n : evO cf gs .n env s = .ok none s := by unfold evO; rfl
@[simp] theorem evO_s {e : Ex} : evO cf gs (.s e) env s = (ev cf gs true e env s).bind fun x s => match x with
    | .int i => .ok (some i) s
    | _ => .err := by (conv => lhs; unfold evO) <;> rfl
@[simp] theorem evC_n : evC cf gs .n env s = .ok true s := by unfold evC; rfl
@[simp] theorem evC_s {e : Ex} : evC cf gs (.s e) env s = (ev cf gs true e env s).bind fun x s => truthS s x := by (conv => lhs; unfold evC) <;> rfl
@[simp] theorem evF_dsp {es : Exs} : evF cf gs (.dsp es) env s = evL cf gs false es env s := by unfold evF; rfl
@[simp] theorem evF_lof {e : Ex} : evF cf gs (.lof e) env s = (ev cf gs true e env s).bind fun x s => match deref s x with
    | .lst ds => .ok ds s
    | .tup ds => .ok ds s
    | _ => .err := by (conv => lhs; unfold evF) <;> rfl
theorem evF_cp1 {elt : Ex} {tg : Tg} {it : Src} {cond : OEx} {vs : List Nat} : evF cf gs (.cp1 elt tg it cond vs) env s = (evI cf gs true it env s).bind fun xs s => (flatF (fun d s => match bindT tg d (wipeE (noOwn env) vs) with
    | none => .err
    | some env1 => (evC cf gs cond env1 s).bind fun t s => if t = true then (ev cf gs false elt env1 s).bind fun y s => .ok [y] s else .ok [] s) xs s).bind fun ys s =>
      if ys.length ≤ LINE then .ok ys s else .err := by (conv => lhs; unfold evF) <;> rfl
theorem evF_cp2 {elt : Ex} {tg tg1 : Tg} {it it1 : Src} {cond cond1 : OEx} {vs vs1 : List Nat} : evF cf gs (.cp2 elt tg it cond tg1 it1 cond1 vs vs1) env s = (evI cf gs true it env s).bind fun xs s => (flatF (fun d s => match bindT tg d (wipeE (noOwn env) vs) with
    | none => .err
    | some env1 => (evC cf gs cond env1 s).bind fun t s => if t = true then (evI cf gs false it1 env1 s).bind fun zs s => flatF (fun d s => match bindT tg1 d (wipeE env1 vs1) with
      | none => .err
      | some env2 => (evC cf gs cond1 env2 s).bind fun t s => if t = true then (ev cf gs false elt env2 s).bind fun y s => .ok [y] s else .ok [] s) zs s else .ok [] s) xs s).bind fun ys s =>
      if ys.length ≤ LINE then .ok ys s else .err := by (conv => lhs; unfold evF) <;> rfl
@[simp] theorem evI_seq {e : Ex} : evI cf gs o (.seq e) env s = (ev cf gs o e env s).bind fun x s => lift (items? x) s := by (conv => lhs; unfold evI) <;> rfl
@[simp] theorem evI_rg1 {a : Ex} : evI cf gs o (.rg1 a) env s = (ev cf gs true a env s).bind fun x s => lift (rng1? x) s := by (conv => lhs; unfold evI) <;> rfl
@[simp] theorem evI_rg2 {a b : Ex} : evI cf gs o (.rg2 a b) env s = (ev cf gs true a env s).bind fun x s => (ev cf gs true b env s).bind fun y s => lift (rng2? x y) s := by (conv => lhs; unfold evI) <;> rfl
@[simp] theorem evI_enm {e : Ex} : evI cf gs o (.enm e) env s = (ev cf gs o e env s).bind fun x s => lift (enum? x) s := by (conv => lhs; unfold evI) <;> rfl
@[simp] theorem evI_zip {a b : Ex} : evI cf gs o (.zip a b) env s = (ev cf gs o a env s).bind fun x s => (ev cf gs o b env s).bind fun y s => lift (zip? x y) s := by (conv => lhs; unfold evI) <;> rfl
@[simp] theorem evP_nil : evP cf gs .nil env s = .ok [] s := by unfold evP; rfl
@[simp] theorem evP_v {e : Ex} {ps : Pxs} : evP cf gs (.v e ps) env s = (ev cf gs false e env s).bind fun d s => (evP cf gs ps env s).bind fun r s => .ok (.val d :: r) s := by (conv => lhs; unfold evP) <;> rfl
@[simp] theorem evP_o {f : Fx} {ps : Pxs} : evP cf gs (.o f ps) env s = (evF cf gs f env s).bind fun d s => (evP cf gs ps env s).bind fun r s => .ok (.own d :: r) s := by (conv => lhs; unfold evP) <;> rfl
@[simp] theorem execs_nil : execs cf gs .nil env s = .ok (.nx env) s := by simp only [execs]
def nextF (o : Out Flow) (f : Env → Sto → Out Flow) : Out Flow := o.bind fun fl s => match fl with
    | .nx env' => f env' s
    | .ret d => .ok (.ret d) s
    | .bk env' => .ok (.bk env') s
    | .ct env' => .ok (.ct env') s
@[simp] theorem nextF_nx {f : Env → Sto → Out Flow} : nextF (.ok (.nx env) s) f = f env s := id rfl
@[simp] theorem nextF_ret {f : Env → Sto → Out Flow} {d : D} : nextF (.ok (.ret d) s) f = .ok (.ret d) s := id rfl
@[simp] theorem nextF_bk {f : Env → Sto → Out Flow} : nextF (.ok (.bk env) s) f = .ok (.bk env) s := id rfl
@[simp] theorem nextF_ct {f : Env → Sto → Out Flow} : nextF (.ok (.ct env) s) f = .ok (.ct env) s := id rfl
@[simp] theorem execs_c {st : Sm} {r : Sms} : execs cf gs (.c st r) env s = nextF (exec cf gs st env s) (execs cf gs r) := by (simp only [execs]) <;> rfl
def stE (o : Option Env) (s : Sto) : Out Flow := match o with
  | some env' => .ok (.nx env') s
  | none => .err
@[simp] theorem stE_some : stE (some env) s = .ok (.nx env) s := id rfl
@[simp] theorem exec_asg {tg : Tg} {e : Ex} : exec cf gs (.asg tg e) env s = (ev cf gs false e env s).bind fun d s => stE (bindT tg d env) s := by (simp only [exec]) <;> rfl
@[simp] theorem exec_own {i : Nat} {f : Fx} : exec cf gs (.own i f) env s = (evF cf gs f env s).bind fun ds s => .ok (.nx (env.set i (some (.own ds)))) s := by simp only [exec]
@[simp] theorem exec_par {is : List Nat} {ps : Pxs} : exec cf gs (.par is ps) env s = (evP cf gs ps env s).bind fun vs s => stE (setAll env is vs) s := by (simp only [exec]) <;> rfl
@[simp] theorem exec_ite {c : Ex} {a b : Sms} : exec cf gs (.ite c a b) env s = (ev cf gs true c env s).bind fun x s => (truthS s x).bind fun t s => if t = true then execs cf gs a env s else execs cf gs b env s := by simp only [exec]
noncomputable def stepF (cf : Nat → List D → Sto → Out D) (gs : List D) (tg : Tg) (b : Sms) : D → Env → Sto → Out Flow := fun d env s => match bindT tg d env with
    | some env1 => execs cf gs b env1 s
    | none => .err
theorem exec_for {tg : Tg} {it : Src} {b : Sms} : exec cf gs (.for tg it b) env s = (evI cf gs false it (frzI env it) s).bind fun xs s => forF (stepF cf gs tg b) xs (frzI env it) s := by (simp only [exec]) <;> rfl
@[simp] theorem exec_ret {e : Ex} : exec cf gs (.ret e) env s = (ev cf gs false e (frzR env e) s).bind fun d s => .ok (.ret d) s := by simp only [exec]
@[simp] theorem exec_retN : exec cf gs .retN env s = .ok (.ret .non) s := by simp only [exec]
@[simp] theorem exec_pass : exec cf gs .pass env s = .ok (.nx env) s := by simp only [exec]
@[simp] theorem exec_brk : exec cf gs .brk env s = .ok (.bk env) s := by simp only [exec]
@[simp] theorem exec_cnt : exec cf gs .cnt env s = .ok (.ct env) s := by simp only [exec]
@[simp] theorem exec_ex {e : Ex} : exec cf gs (.ex e) env s = (ev cf gs false e env s).bind fun _ s => .ok (.nx env) s := by simp only [exec]
@[simp] theorem exec_app {i : Nat} {e : Ex} : exec cf gs (.app i e) env s = (ev cf gs false e env s).bind fun d s => chg env i s fun ds => if ds.length < LINE then some (ds ++ [d]) else none := by simp only [exec]
@[simp] theorem exec_ext {i : Nat} {e : Ex} : exec cf gs (.ext i e) env s = (ev cf gs true e env s).bind fun d s => (match d with
    | .lst zs => chg env i s fun ds => if ds.length + zs.length ≤ LINE then some (ds ++ zs) else none
    | _ => .err) := by (simp only [exec]) <;> rfl
@[simp] theorem exec_setV {i : Nat} {k e : Ex} : exec cf gs (.setV i k e) env s = (ev cf gs false e env s).bind fun d s => (ev cf gs true k env s).bind fun x s => (match x with
    | .int k => chg env i s fun ds => (L2.ixN ds.length k).map fun j => ds.set j d
    | _ => .err) := by (simp only [exec]) <;> rfl
@[simp] theorem bindT_nm {i : Nat} {d : D} : bindT (.nm i) d env = some (env.set i (some (.val d))) := by unfold bindT; rfl
@[simp] theorem bindT_tp {ts : Tgs} {ds : List D} : bindT (.tp ts) (.tup ds) env = bindTs ts ds env := by (conv => lhs; unfold bindT) <;> rfl
@[simp] theorem bindTs_nil : bindTs .nil [] env = some env := by unfold bindTs; rfl
@[simp] theorem bindTs_c {t : Tg} {ts : Tgs} {d : D} {ds : List D} : bindTs (.c t ts) (d :: ds) env = (match bindT t d env with
    | some env' => bindTs ts ds env'
    | none => none) := by (conv => lhs; unfold bindTs) <;> rfl
@[simp] theorem truthS_bl {b : Bool} : truthS s (.bl b) = .ok b s := id rfl
@[simp] theorem truthS_int {i : Int} : truthS s (.int i) = .ok (i != 0) s := id rfl
@[simp] theorem truthS_non : truthS s .non = .ok false s := id rfl
@[simp] theorem truthS_lst {ds : List D} : truthS s (.lst ds) = .ok (!ds.isEmpty) s := id rfl
@[simp] theorem deref_int {i : Int} : deref s (.int i) = .int i := id rfl
@[simp] theorem deref_bl {i : Bool} : deref s (.bl i) = .bl i := id rfl
@[simp] theorem deref_str {i : Str} : deref s (.str i) = .str i := id rfl
@[simp] theorem deref_non : deref s .non = .non := id rfl
@[simp] theorem deref_tup {ds : List D} : deref s (.tup ds) = .tup ds := id rfl
@[simp] theorem deref_lst {ds : List D} : deref s (.lst ds) = .lst ds := id rfl
@[simp] theorem deref_rol {ds : List D} : deref s (.rol ds) = .rol ds := id rfl
theorem call_at {fs : List Fn} {n i : Nat} {f : Fn} {ds : List D} (h : fs[i]? = some f) (hl : ds.length = f.ps.length) : callF fs gs (n + 1) i ds s = retOf (execs (callF fs gs n) gs f.body (startE f.N.length ds) s) := by
  show (match fs[i]? with
    | some f => if ds.length = f.ps.length then retOf (execs (callF fs gs n) gs f.body (startE f.N.length ds) s) else .err
    | none => .err) = _
  rw [h]
  exact if_pos hl
@[simp] theorem retOf_ret {d : D} : retOf (.ok (.ret d) s) = .ok d s := id rfl
@[simp] theorem retOf_nx : retOf (.ok (.nx env) s) = .ok .non s := id rfl
theorem idx_tup {xs : List D} {k : Nat} {d : D} (h : xs[k]? = some d) : idxD (.tup xs) (.int k) = some d := by
  show L2.atI xs (k : Int) = some d
  have hk : k < xs.length := (List.getElem?_eq_some_iff.mp h).1
  unfold L2.atI L2.ixN
  simp [hk]
  exact (List.getElem?_eq_some_iff.mp h).2
end

@[simp] theorem setAll_nil {env : Env} : setAll env [] [] = some env := id rfl
@[simp] theorem setAll_c {env : Env} {i : Nat} {is : List Nat} {v : SV} {vs : List SV} : setAll env (i :: is) (v :: vs) = setAll (env.set i (some v)) is vs := id rfl
/-! ### loops and comprehensions -/
theorem flatF_pure {α : Type} {f : D → Sto → Out (List D)} {mk : α → D} {g : α → List D} {s : Sto} : ∀ {xs : List α}, (∀ x ∈ xs, f (mk x) s = .ok (g x) s) → flatF f (xs.map mk) s = .ok (xs.flatMap g) s
  | [], _ => rfl
  | x :: xs, h => by
    have ih := flatF_pure (f := f) (mk := mk) (g := g) (s := s) (xs := xs) fun y hy => h y (List.mem_cons_of_mem _ hy)
    show (f (mk x) s).bind (fun xs' s1 => (flatF f (xs.map mk) s1).bind fun ys s2 => .ok (xs' ++ ys) s2) = _
    rw [h x List.mem_cons_self, ok_bind, ih, ok_bind]
    rfl
/-- with a state -/
theorem flatF_st {α : Type} {f : D → Sto → Out (List D)} {mk : α → D} {I : Sto → Prop} {R : α → List D → Prop} : ∀ {xs : List α} {s : Sto}, I s → (∀ x ∈ xs, ∀ s, I s → ∃ ys s', f (mk x) s = .ok ys s' ∧ I s' ∧ R x ys) →
    ∃ (yss : List (List D)) (s' : Sto), flatF f (xs.map mk) s = .ok (yss.flatten) s' ∧ I s' ∧ yss.length = xs.length ∧ ∀ (i : Nat) x ys, xs[i]? = some x → yss[i]? = some ys → R x ys
  | [], s, hI, _ => ⟨[], s, rfl, hI, rfl, fun i x ys h => by simp at h⟩
  | x :: xs, s, hI, h => by
    obtain ⟨ys, s1, e1, I1, r1⟩ := h x List.mem_cons_self s hI
    obtain ⟨yss, s2, e2, I2, hl, r2⟩ := flatF_st (f := f) (mk := mk) (R := R) (xs := xs) I1 fun y hy => h y (List.mem_cons_of_mem _ hy)
    refine ⟨ys :: yss, s2, ?_, I2, by simp [hl], fun i y zs h1 h2 => ?_⟩
    · show (f (mk x) s).bind (fun xs' s1 => (flatF f (xs.map mk) s1).bind fun ys s2 => .ok (xs' ++ ys) s2) = _
      rw [e1, ok_bind, e2, ok_bind]; rfl
    · cases i with
      | zero => simp at h1 h2; subst h1 h2; exact r1
      | succ i => simp at h1 h2; exact r2 i y zs h1 h2
theorem forF_inv {α : Type} {f : D → Env → Sto → Out Flow} {mk : α → D} {I : List α → Env → Sto → Prop} : ∀ {xs pre : List α} {env : Env} {s : Sto}, I pre env s →
    (∀ p x q env s, pre ++ xs = p ++ x :: q → I p env s → ∃ env' s', f (mk x) env s = .ok (.nx env') s' ∧ I (p ++ [x]) env' s') → ∃ env' s', forF f (xs.map mk) env s = .ok (.nx env') s' ∧ I (pre ++ xs) env' s'
  | [], pre, env, s, hI, _ => ⟨env, s, rfl, by simpa using hI⟩
  | x :: xs, pre, env, s, hI, h => by
    obtain ⟨env1, s1, e1, I1⟩ := h pre x xs env s rfl hI
    obtain ⟨env2, s2, e2, I2⟩ := forF_inv (f := f) (mk := mk) (I := I) (xs := xs) (pre := pre ++ [x]) I1 fun p y q env s e => h p y q env s (by rw [← e]; simp)
    refine ⟨env2, s2, ?_, by simpa using I2⟩
    show (f (mk x) env s).bind _ = _
    rw [e1, ok_bind]; exact e2
end PV
set_option maxRecDepth 100000
set_option maxHeartbeats 4000000
namespace PV.K43
open PySem PySem.Spec PyProof.Rows L2 PV
/-! ### the code -/
def c_size_of : Fn := ⟨["heights"], ["heights"], (.c (.ret (.tup (.c (.blt .len (.c (.idx (.var 0) (.int 0)) .nil)) (.c (.blt .len (.c (.var 0) .nil)) .nil)))) .nil)⟩
def c_fields_beneath : Fn := ⟨["tool", "spot", "x", "y", "b", "a"], ["tool", "spot"], (.c (.asg (.tp (.c (.nm 2) (.c (.nm 3) .nil))) (.var 1)) (.c (.ret (.fz (.cp2 (.tup (.c (.var 5) (.c (.var 4) .nil))) (.nm 4) (.rg2 (.var 3) (.bin .add (.var 3) (.idx (.var 0) (.int 1)))) .n (.nm 5) (.rg2 (.var 2) (.bin .add (.var 2) (.idx (.var 0) (.int 1)))) .n [4, 5] [5]))) .nil))⟩
def c_fields_about : Fn := ⟨["size", "tool", "spot", "x", "y", "rim", "side", "found", "b", "a"], ["size", "tool", "spot"], (.c (.asg (.tp (.c (.nm 3) (.c (.nm 4) .nil))) (.var 2)) (.c (.par [5, 6] (.v (.idx (.var 1) (.int 3)) (.v (.idx (.var 1) (.int 1)) .nil))) (.c (.own 7 (.dsp .nil)) (.c (.for (.nm 8) (.rg2 (.blt .max (.c (.int 0) (.c (.bin .sub (.var 4) (.var 5)) .nil))) (.blt .min (.c (.idx (.var 0) (.int 1)) (.c (.bin .add (.bin .add (.var 4) (.var 6)) (.var 5)) .nil)))) (.c (.for (.nm 9) (.rg2 (.blt .max (.c (.int 0) (.c (.bin .sub (.var 3) (.var 5)) .nil))) (.blt .min (.c (.idx (.var 0) (.int 0)) (.c (.bin .add (.bin .add (.var 3) (.var 6)) (.var 5)) .nil)))) (.c (.ite (.not (.bop true (.c (.chn .le .lt (.var 3) (.var 9) (.bin .add (.var 3) (.var 6))) (.c (.chn .le .lt (.var 4) (.var 8) (.bin .add (.var 4) (.var 6))) .nil)))) (.c (.app 7 (.tup (.c (.var 9) (.c (.var 8) .nil)))) .nil) .nil) .nil)) .nil)) (.c (.ret (.var 7)) .nil)))))⟩
def c_greatest_at : Fn := ⟨["heights", "fields", "x", "y"], ["heights", "fields"], (.c (.ret (.blt .max (.c (.bin .add (.fz (.dsp (.c (.int 0) .nil))) (.fz (.cp1 (.idx (.idx (.var 0) (.var 3)) (.var 2)) (.tp (.c (.nm 2) (.c (.nm 3) .nil))) (.seq (.var 1)) .n [2, 3]))) .nil))) .nil)⟩
def c_is_free : Fn := ⟨["block", "tool", "place"], ["block", "tool", "place"], (.c (.ret (.cmp .le (.call 3 (.c (.var 0) (.c (.call 1 (.c (.var 1) (.c (.slc (.var 2) .n (.s (.int 2))) .nil))) .nil))) (.idx (.var 2) (.int 2)))) .nil)⟩
def c_is_shank_free : Fn := ⟨["block", "tool", "place", "size", "beneath", "about"], ["block", "tool", "place"], (.c (.asg (.nm 3) (.call 0 (.c (.var 0) .nil))) (.c (.par [4, 5] (.v (.call 1 (.c (.var 1) (.c (.slc (.var 2) .n (.s (.int 2))) .nil))) (.v (.call 2 (.c (.var 3) (.c (.var 1) (.c (.slc (.var 2) .n (.s (.int 2))) .nil)))) .nil))) (.c (.ret (.cmp .le (.call 3 (.c (.var 0) (.c (.bin .add (.var 4) (.var 5)) .nil))) (.bin .add (.idx (.var 2) (.int 2)) (.idx (.var 1) (.int 2))))) .nil)))⟩
def c_cut_at : Fn := ⟨["block", "tool", "place", "x", "y", "z", "side", "found", "b", "row", "inside", "a", "h"], ["block", "tool", "place"], (.c (.asg (.tp (.c (.nm 3) (.c (.nm 4) (.c (.nm 5) .nil)))) (.var 2)) (.c (.par [6, 7] (.v (.idx (.var 1) (.int 1)) (.o (.dsp .nil) .nil))) (.c (.for (.tp (.c (.nm 8) (.c (.nm 9) .nil))) (.enm (.var 0)) (.c (.asg (.nm 10) (.chn .le .lt (.var 4) (.var 8) (.bin .add (.var 4) (.var 6)))) (.c (.app 7 (.blt .tup (.c (.fz (.cp1 (.ite (.bop true (.c (.var 10) (.c (.chn .le .lt (.var 3) (.var 11) (.bin .add (.var 3) (.var 6))) .nil))) (.blt .min (.c (.var 12) (.c (.var 5) .nil))) (.var 12)) (.tp (.c (.nm 11) (.c (.nm 12) .nil))) (.enm (.var 9)) .n [11, 12])) .nil))) .nil))) (.c (.ret (.blt .tup (.c (.var 7) .nil))) .nil))))⟩
def c_strokes_between : Fn := ⟨["place", "other", "found", "here", "axis", "there"], ["place", "other"], (.c (.par [2, 3] (.o (.dsp .nil) (.v (.var 0) .nil))) (.c (.for (.nm 4) (.seq (.tup (.c (.int 0) (.c (.int 1) (.c (.int 2) .nil))))) (.c (.asg (.nm 5) (.bin .add (.bin .add (.slc (.var 3) .n (.s (.var 4))) (.tup (.c (.idx (.var 1) (.var 4)) .nil))) (.slc (.var 3) (.s (.bin .add (.var 4) (.int 1))) .n))) (.c (.ite (.cmp .ne (.var 5) (.var 3)) (.c (.app 2 (.tup (.c (.var 3) (.c (.var 5) .nil)))) .nil) .nil) (.c (.asg (.nm 3) (.var 5)) .nil)))) (.c (.ret (.var 2)) .nil)))⟩
def c_stroke_steps : Fn := ⟨["here", "there", "a", "b"], ["here", "there"], (.c (.ret (.blt .sum (.c (.fz (.cp1 (.blt .abs (.c (.bin .sub (.var 2) (.var 3)) .nil)) (.tp (.c (.nm 2) (.c (.nm 3) .nil))) (.zip (.var 0) (.var 1)) .n [2, 3])) .nil))) .nil)⟩
def c_stroke_axis : Fn := ⟨["here", "there", "axis"], ["here", "there"], (.c (.ret (.idx (.fz (.cp1 (.var 2) (.nm 2) (.seq (.tup (.c (.int 0) (.c (.int 1) (.c (.int 2) .nil))))) (.s (.cmp .ne (.idx (.var 0) (.var 2)) (.idx (.var 1) (.var 2)))) [2])) (.int 0))) .nil)⟩
def c_swept_bounds : Fn := ⟨["tool", "here", "there", "side", "first", "last"], ["tool", "here", "there"], (.c (.asg (.nm 3) (.idx (.var 0) (.int 1))) (.c (.asg (.nm 4) (.tup (.c (.blt .min (.c (.idx (.var 1) (.int 0)) (.c (.idx (.var 2) (.int 0)) .nil))) (.c (.blt .min (.c (.idx (.var 1) (.int 1)) (.c (.idx (.var 2) (.int 1)) .nil))) .nil)))) (.c (.asg (.nm 5) (.tup (.c (.bin .sub (.bin .add (.blt .max (.c (.idx (.var 1) (.int 0)) (.c (.idx (.var 2) (.int 0)) .nil))) (.var 3)) (.int 1)) (.c (.bin .sub (.bin .add (.blt .max (.c (.idx (.var 1) (.int 1)) (.c (.idx (.var 2) (.int 1)) .nil))) (.var 3)) (.int 1)) .nil)))) (.c (.ret (.tup (.c (.var 4) (.c (.var 5) .nil)))) .nil))))⟩
def c_block_behind_stroke : Fn := ⟨["block", "tool", "here", "there", "first", "low", "last", "high", "z", "found", "b", "row", "inside", "a", "h"], ["block", "tool", "here", "there"], (.c (.asg (.tp (.c (.tp (.c (.nm 4) (.c (.nm 5) .nil))) (.c (.tp (.c (.nm 6) (.c (.nm 7) .nil))) .nil))) (.call 10 (.c (.var 1) (.c (.var 2) (.c (.var 3) .nil))))) (.c (.par [8, 9] (.v (.blt .min (.c (.idx (.var 2) (.int 2)) (.c (.idx (.var 3) (.int 2)) .nil))) (.o (.dsp .nil) .nil))) (.c (.for (.tp (.c (.nm 10) (.c (.nm 11) .nil))) (.enm (.var 0)) (.c (.asg (.nm 12) (.chn .le .le (.var 5) (.var 10) (.var 7))) (.c (.app 9 (.blt .tup (.c (.fz (.cp1 (.ite (.bop true (.c (.var 12) (.c (.chn .le .le (.var 4) (.var 13) (.var 6)) .nil))) (.blt .min (.c (.var 14) (.c (.var 8) .nil))) (.var 14)) (.tp (.c (.nm 13) (.c (.nm 14) .nil))) (.enm (.var 11)) .n [13, 14])) .nil))) .nil))) (.c (.ret (.blt .tup (.c (.var 9) .nil))) .nil))))⟩
def c_first_meeting : Fn := ⟨["field", "begin", "end", "reach", "low", "high", "first"], ["field", "begin", "end", "reach"], (.c (.asg (.tp (.c (.nm 4) (.c (.nm 5) .nil))) (.var 3)) (.c (.ite (.cmp .gt (.var 2) (.var 1)) (.c (.asg (.nm 6) (.blt .max (.c (.bin .add (.var 1) (.int 1)) (.c (.bin .sub (.var 0) (.var 5)) .nil)))) (.c (.ret (.ite (.cmp .le (.var 6) (.blt .min (.c (.var 2) (.c (.bin .add (.var 0) (.var 4)) .nil)))) (.bin .sub (.var 6) (.var 1)) .non)) .nil)) .nil) (.c (.asg (.nm 6) (.blt .min (.c (.bin .sub (.var 1) (.int 1)) (.c (.bin .add (.var 0) (.var 4)) .nil)))) (.c (.ret (.ite (.cmp .ge (.var 6) (.blt .max (.c (.var 2) (.c (.bin .sub (.var 0) (.var 5)) .nil)))) (.bin .sub (.var 1) (.var 6)) .non)) .nil))))⟩
def c_steps_to_height : Fn := ⟨["block", "tool", "here", "there", "rim", "limit", "axis", "side", "found", "across", "y", "row", "told", "x", "height", "field", "steps"], ["block", "tool", "here", "there", "rim", "limit"], (.c (.par [6, 7, 8] (.v (.call 9 (.c (.var 2) (.c (.var 3) .nil))) (.v (.idx (.var 1) (.int 1)) (.o (.dsp .nil) .nil)))) (.c (.asg (.nm 9) (.bin .sub (.int 1) (.var 6))) (.c (.for (.tp (.c (.nm 10) (.c (.nm 11) .nil))) (.enm (.var 0)) (.c (.for (.tp (.c (.nm 13) (.c (.nm 14) .nil))) (.enm (.var 11)) (.c (.asg (.nm 15) (.tup (.c (.var 13) (.c (.var 10) .nil)))) (.c (.ite (.bop true (.c (.cmp .gt (.var 14) (.var 5)) (.c (.chn .le .le (.bin .sub (.idx (.var 2) (.var 9)) (.var 4)) (.idx (.var 15) (.var 9)) (.bin .add (.bin .sub (.bin .add (.idx (.var 2) (.var 9)) (.var 7)) (.int 1)) (.var 4))) .nil))) (.c (.app 8 (.call 12 (.c (.idx (.var 15) (.var 6)) (.c (.idx (.var 2) (.var 6)) (.c (.idx (.var 3) (.var 6)) (.c (.tup (.c (.var 4) (.c (.bin .add (.bin .sub (.var 7) (.int 1)) (.var 4)) .nil))) .nil)))))) .nil) .nil) .nil))) .nil)) (.c (.asg (.nm 12) (.fz (.cp1 (.var 16) (.nm 16) (.seq (.var 8)) (.s (.cmp .isn (.var 16) .non)) [16]))) (.c (.ret (.ite (.var 12) (.blt .min (.c (.var 12) .nil)) .non)) .nil)))))⟩
def c_level_strike : Fn := ⟨["block", "tool", "kind", "here", "there", "told", "steps"], ["block", "tool", "kind", "here", "there"], (.c (.own 5 (.dsp (.c (.call 13 (.c (.var 0) (.c (.var 1) (.c (.var 3) (.c (.var 4) (.c (.idx (.var 1) (.int 3)) (.c (.bin .add (.idx (.var 3) (.int 2)) (.idx (.var 1) (.int 2))) .nil))))))) .nil))) (.c (.ite (.cmp .eq (.var 2) (.gl 0)) (.c (.app 5 (.call 13 (.c (.var 0) (.c (.var 1) (.c (.var 3) (.c (.var 4) (.c (.int 0) (.c (.idx (.var 3) (.int 2)) .nil)))))))) .nil) .nil) (.c (.own 5 (.cp1 (.var 6) (.nm 6) (.seq (.var 5)) (.s (.cmp .isn (.var 6) .non)) [6])) (.c (.ret (.ite (.var 5) (.bin .sub (.blt .min (.c (.var 5) .nil)) (.int 1)) .non)) .nil))))⟩
def c_upright_strike : Fn := ⟨["block", "tool", "kind", "here", "there", "spot", "least"], ["block", "tool", "kind", "here", "there"], (.c (.asg (.nm 5) (.slc (.var 3) .n (.s (.int 2)))) (.c (.asg (.nm 6) (.bin .sub (.call 3 (.c (.var 0) (.c (.call 2 (.c (.call 0 (.c (.var 0) .nil)) (.c (.var 1) (.c (.var 5) .nil)))) .nil))) (.idx (.var 1) (.int 2)))) (.c (.ite (.cmp .eq (.var 2) (.gl 0)) (.c (.asg (.nm 6) (.blt .max (.c (.var 6) (.c (.call 3 (.c (.var 0) (.c (.call 1 (.c (.var 1) (.c (.var 5) .nil))) .nil))) .nil)))) .nil) .nil) (.c (.ret (.ite (.cmp .lt (.idx (.var 4) (.int 2)) (.var 6)) (.bin .sub (.idx (.var 3) (.int 2)) (.var 6)) .non)) .nil))))⟩
def c_stroke_strike : Fn := ⟨["block", "tool", "kind", "here", "there"], ["block", "tool", "kind", "here", "there"], (.c (.ite (.cmp .lt (.call 9 (.c (.var 3) (.c (.var 4) .nil))) (.int 2)) (.c (.ret (.call 14 (.c (.var 0) (.c (.var 1) (.c (.var 2) (.c (.var 3) (.c (.var 4) .nil))))))) .nil) .nil) (.c (.ret (.call 15 (.c (.var 0) (.c (.var 1) (.c (.var 2) (.c (.var 3) (.c (.var 4) .nil))))))) .nil))⟩
def c__law_flat : Fn := ⟨["rows", "found", "row"], ["rows"], (.c (.own 1 (.dsp .nil)) (.c (.for (.nm 2) (.seq (.var 0)) (.c (.ext 1 (.var 2)) .nil)) (.c (.ret (.var 1)) .nil)))⟩
def c__law_box : Fn := ⟨["script"], ["script"], (.c (.ret (.alloc (.dsp (.c (.alloc (.lof (.slc (.var 0) .n (.s (.int 63))))) (.c (.int 0) (.c (.bin .add (.int 4711) (.blt .len (.c (.var 0) .nil))) .nil)))))) .nil)⟩
def c__law_load : Fn := ⟨["box", "cells", "first", "second", "cell", "size"], ["box"], (.c (.asg (.nm 1) (.idx (.var 0) (.int 0))) (.c (.ite (.cmp .gt (.blt .len (.c (.var 1) .nil)) (.int 0)) (.c (.asg (.nm 4) (.blt .int (.c (.popL 1 (.s (.int 0))) .nil))) (.c (.asg (.nm 5) (.ite (.cmp .ge (.var 4) (.int 0)) (.bin .mul (.int 2) (.var 4)) (.bin .sub (.bin .mul (.neg (.int 2)) (.var 4)) (.int 1)))) (.c (.ite (.cmp .ge (.var 5) (.int 1000000000000000000)) (.c (.ret (.var 5)) .nil) .nil) (.c (.setV 0 (.int 2) (.bin .mod (.blt .int (.c (.bin .add (.bin .add (.bin .mul (.idx (.var 0) (.int 2)) (.int 69621)) (.bin .mul (.var 5) (.int 48271))) (.int 11)) .nil)) (.int 2147483647))) .nil)))) .nil) (.c (.asg (.nm 2) (.bin .mod (.blt .int (.c (.bin .add (.bin .mul (.idx (.var 0) (.int 2)) (.int 48271)) (.int 17)) .nil)) (.int 2147483629))) (.c (.asg (.nm 3) (.bin .mod (.blt .int (.c (.bin .add (.bin .mul (.var 2) (.int 69621)) (.int 5)) .nil)) (.int 2147483587))) (.c (.setV 0 (.int 2) (.bin .mod (.blt .int (.c (.bin .add (.bin .mul (.var 3) (.int 40692)) (.int 3)) .nil)) (.int 2147483563))) (.c (.ret (.bin .add (.bin .add (.bin .mul (.var 2) (.int 4611686014132420609)) (.bin .mul (.var 3) (.int 2147483647))) (.idx (.var 0) (.int 2)))) .nil))))))⟩
def c__law_draw : Fn := ⟨["box", "many", "digit"], ["box", "many"], (.c (.ite (.cmp .lt (.idx (.var 0) (.int 1)) (.var 1)) (.c (.setV 0 (.int 1) (.call 19 (.c (.var 0) .nil))) .nil) .nil) (.c (.asg (.nm 2) (.bin .mod (.blt .int (.c (.idx (.var 0) (.int 1)) .nil)) (.var 1))) (.c (.setV 0 (.int 1) (.bin .div (.idx (.var 0) (.int 1)) (.var 1))) (.c (.ret (.var 2)) .nil))))⟩
def c__law_same : Fn := ⟨["a", "b", "k"], ["a", "b"], (.c (.ite (.bop false (.c (.bop true (.c (.isi (.var 0) .tup) (.c (.isi (.var 1) .tup) .nil))) (.c (.bop true (.c (.isi (.var 0) .lst) (.c (.isi (.var 1) .lst) .nil))) .nil))) (.c (.ret (.bop true (.c (.cmp .eq (.blt .len (.c (.var 0) .nil)) (.blt .len (.c (.var 1) .nil))) (.c (.blt .all (.c (.fz (.cp1 (.call 21 (.c (.idx (.var 0) (.var 2)) (.c (.idx (.var 1) (.var 2)) .nil))) (.nm 2) (.rg1 (.blt .len (.c (.var 0) .nil))) .n [2])) .nil)) .nil)))) .nil) .nil) (.c (.ite (.bop false (.c (.isi (.var 0) .bool) (.c (.isi (.var 1) .bool) .nil))) (.c (.ret (.bop true (.c (.isi (.var 0) .bool) (.c (.isi (.var 1) .bool) (.c (.cmp .eq (.var 0) (.var 1)) .nil))))) .nil) .nil) (.c (.ite (.bop false (.c (.bop true (.c (.isi (.var 0) .int) (.c (.isi (.var 1) .int) .nil))) (.c (.bop true (.c (.isi (.var 0) .str) (.c (.isi (.var 1) .str) .nil))) .nil))) (.c (.ret (.cmp .eq (.var 0) (.var 1))) .nil) .nil) (.c (.ret (.bop true (.c (.cmp .is (.var 0) .non) (.c (.cmp .is (.var 1) .non) .nil)))) .nil))))⟩
def c__law_block : Fn := ⟨["box", "wide", "high", "top", "y", "x"], ["box", "wide", "high", "top"], (.c (.ret (.blt .tup (.c (.fz (.cp1 (.blt .tup (.c (.fz (.cp1 (.call 20 (.c (.var 0) (.c (.bin .add (.var 3) (.int 1)) .nil))) (.nm 5) (.rg1 (.var 1)) .n [5])) .nil)) (.nm 4) (.rg1 (.var 2)) .n [4])) .nil))) .nil)⟩
def c__law_tools : Fn := ⟨["box", "name"], ["box"], (.c (.ret (.blt .tup (.c (.fz (.cp1 (.tup (.c (.var 1) (.c (.bin .add (.int 1) (.call 20 (.c (.var 0) (.c (.int 3) .nil)))) (.c (.bin .add (.int 1) (.call 20 (.c (.var 0) (.c (.int 4) .nil)))) (.c (.call 20 (.c (.var 0) (.c (.int 2) .nil))) .nil))))) (.nm 1) (.seq (.slc (.tup (.c (.str "a") (.c (.str "b") (.c (.str "c") .nil)))) .n (.s (.bin .add (.int 1) (.call 20 (.c (.var 0) (.c (.int 3) .nil))))))) .n [1])) .nil))) .nil)⟩
def c__law_window : Fn := ⟨["size", "tool", "x", "y", "rim", "a", "b"], ["size", "tool", "x", "y", "rim"], (.c (.ret (.call 17 (.c (.fz (.cp1 (.fz (.cp1 (.tup (.c (.var 5) (.c (.var 6) .nil))) (.nm 6) (.rg2 (.blt .max (.c (.int 0) (.c (.bin .sub (.var 3) (.var 4)) .nil))) (.blt .min (.c (.idx (.var 0) (.int 1)) (.c (.bin .add (.bin .add (.var 3) (.idx (.var 1) (.int 1))) (.var 4)) .nil)))) .n [6])) (.nm 5) (.rg2 (.blt .max (.c (.int 0) (.c (.bin .sub (.var 2) (.var 4)) .nil))) (.blt .min (.c (.idx (.var 0) (.int 0)) (.c (.bin .add (.bin .add (.var 2) (.idx (.var 1) (.int 1))) (.var 4)) .nil)))) .n [5])) .nil))) .nil)⟩
def c__law_top : Fn := ⟨["block", "fields", "a", "b"], ["block", "fields"], (.c (.ret (.blt .max (.c (.bin .add (.fz (.dsp (.c (.int 0) .nil))) (.fz (.cp1 (.idx (.idx (.var 0) (.var 3)) (.var 2)) (.tp (.c (.nm 2) (.c (.nm 3) .nil))) (.seq (.var 1)) .n [2, 3]))) .nil))) .nil)⟩
def c__law_stroke : Fn := ⟨["block", "size", "tool", "kind", "here", "there", "axis", "more", "step", "k"], ["block", "size", "tool", "kind", "here", "there"], (.c (.asg (.nm 6) (.idx (.fz (.cp1 (.var 9) (.nm 9) (.seq (.tup (.c (.int 0) (.c (.int 1) (.c (.int 2) .nil))))) (.s (.cmp .ne (.idx (.var 4) (.var 9)) (.idx (.var 5) (.var 9)))) [9])) (.int 0))) (.c (.asg (.nm 7) (.ite (.cmp .gt (.idx (.var 5) (.var 6)) (.idx (.var 4) (.var 6))) (.int 1) (.neg (.int 1)))) (.c (.for (.nm 8) (.rg1 (.blt .abs (.c (.bin .sub (.idx (.var 5) (.var 6)) (.idx (.var 4) (.var 6))) .nil))) (.c (.asg (.nm 4) (.bin .add (.bin .add (.slc (.var 4) .n (.s (.var 6))) (.tup (.c (.bin .add (.idx (.var 4) (.var 6)) (.var 7)) .nil))) (.slc (.var 4) (.s (.bin .add (.var 6) (.int 1))) .n))) (.c (.ite (.bop false (.c (.bop true (.c (.cmp .eq (.var 3) (.str "fast")) (.c (.not (.call 4 (.c (.var 0) (.c (.var 2) (.c (.var 4) .nil))))) .nil))) (.c (.not (.call 5 (.c (.var 0) (.c (.var 2) (.c (.var 4) .nil))))) .nil))) (.c (.ret (.tup (.c (.var 8) (.c (.var 0) .nil)))) .nil) .nil) (.c (.asg (.nm 0) (.call 6 (.c (.var 0) (.c (.var 2) (.c (.var 4) .nil))))) .nil)))) (.c (.ret (.tup (.c .non (.c (.var 0) .nil)))) .nil))))⟩
def c_law : Fn := ⟨["script", "box", "turn", "tool", "size", "top", "block", "step", "spot", "least_z", "here", "now", "axis", "most", "there", "other", "corners", "ways", "kind", "due", "later", "k"], ["script"], (.c (.asg (.nm 1) (.call 18 (.c (.var 0) .nil))) (.c (.for (.nm 2) (.rg1 (.int 8)) (.c (.asg (.nm 3) (.idx (.call 23 (.c (.var 1) .nil)) (.int 0))) (.c (.par [4, 5] (.v (.tup (.c (.bin .add (.idx (.var 3) (.int 1)) (.call 20 (.c (.var 1) (.c (.int 4) .nil)))) (.c (.bin .add (.idx (.var 3) (.int 1)) (.call 20 (.c (.var 1) (.c (.int 4) .nil)))) .nil))) (.v (.bin .add (.int 1) (.call 20 (.c (.var 1) (.c (.int 6) .nil)))) .nil))) (.c (.asg (.nm 6) (.call 22 (.c (.var 1) (.c (.idx (.var 4) (.int 0)) (.c (.idx (.var 4) (.int 1)) (.c (.var 5) .nil)))))) (.c (.for (.nm 7) (.rg1 (.int 4)) (.c (.asg (.nm 8) (.tup (.c (.call 20 (.c (.var 1) (.c (.bin .add (.bin .sub (.idx (.var 4) (.int 0)) (.idx (.var 3) (.int 1))) (.int 1)) .nil))) (.c (.call 20 (.c (.var 1) (.c (.bin .add (.bin .sub (.idx (.var 4) (.int 1)) (.idx (.var 3) (.int 1))) (.int 1)) .nil))) .nil)))) (.c (.asg (.nm 9) (.blt .max (.c (.int 0) (.c (.bin .sub (.call 25 (.c (.var 6) (.c (.call 24 (.c (.var 4) (.c (.var 3) (.c (.idx (.var 8) (.int 0)) (.c (.idx (.var 8) (.int 1)) (.c (.idx (.var 3) (.int 3)) .nil)))))) .nil))) (.idx (.var 3) (.int 2))) .nil)))) (.c (.asg (.nm 10) (.bin .add (.var 8) (.tup (.c (.blt .min (.c (.int 12) (.c (.bin .add (.var 9) (.call 20 (.c (.var 1) (.c (.int 4) .nil)))) .nil))) .nil)))) (.c (.asg (.nm 11) (.call 6 (.c (.var 6) (.c (.var 3) (.c (.var 10) .nil))))) (.c (.asg (.nm 12) (.call 20 (.c (.var 1) (.c (.int 3) .nil)))) (.c (.asg (.nm 13) (.idx (.fz (.dsp (.c (.bin .sub (.idx (.var 4) (.int 0)) (.idx (.var 3) (.int 1))) (.c (.bin .sub (.idx (.var 4) (.int 1)) (.idx (.var 3) (.int 1))) (.c (.int 12) .nil))))) (.var 12))) (.c (.asg (.nm 14) (.bin .add (.bin .add (.slc (.var 10) .n (.s (.var 12))) (.tup (.c (.call 20 (.c (.var 1) (.c (.bin .add (.var 13) (.int 1)) .nil))) .nil))) (.slc (.var 10) (.s (.bin .add (.var 12) (.int 1))) .n))) (.c (.ite (.cmp .ne (.var 14) (.var 10)) (.c (.asg (.nm 18) (.idx (.tup (.c (.str "fast") (.c (.str "cut") .nil))) (.call 20 (.c (.var 1) (.c (.int 2) .nil))))) (.c (.asg (.tp (.c (.nm 19) (.c (.nm 20) .nil))) (.call 26 (.c (.var 11) (.c (.var 4) (.c (.var 3) (.c (.var 18) (.c (.var 10) (.c (.var 14) .nil)))))))) (.c (.ite (.not (.call 21 (.c (.call 16 (.c (.var 11) (.c (.var 3) (.c (.var 18) (.c (.var 10) (.c (.var 14) .nil)))))) (.c (.var 19) .nil)))) (.c (.ret (.bl false)) .nil) .nil) (.c (.ite (.bop true (.c (.cmp .is (.var 19) .non) (.c (.not (.call 21 (.c (.call 11 (.c (.var 11) (.c (.var 3) (.c (.var 10) (.c (.var 14) .nil))))) (.c (.var 20) .nil)))) .nil))) (.c (.ret (.bl false)) .nil) .nil) (.c (.ite (.not (.call 21 (.c (.tup (.c (.call 7 (.c (.var 10) (.c (.var 14) .nil))) (.c (.call 8 (.c (.var 10) (.c (.var 14) .nil))) .nil))) (.c (.tup (.c (.fz (.dsp (.c (.tup (.c (.var 10) (.c (.var 14) .nil))) .nil))) (.c (.blt .abs (.c (.bin .sub (.idx (.var 14) (.var 12)) (.idx (.var 10) (.var 12))) .nil)) .nil))) .nil)))) (.c (.ret (.bl false)) .nil) .nil) .nil))))) .nil) (.c (.asg (.nm 15) (.tup (.c (.call 20 (.c (.var 1) (.c (.bin .add (.bin .sub (.idx (.var 4) (.int 0)) (.idx (.var 3) (.int 1))) (.int 1)) .nil))) (.c (.call 20 (.c (.var 1) (.c (.bin .add (.bin .sub (.idx (.var 4) (.int 1)) (.idx (.var 3) (.int 1))) (.int 1)) .nil))) (.c (.call 20 (.c (.var 1) (.c (.int 13) .nil))) .nil))))) (.c (.asg (.nm 16) (.fz (.dsp (.c (.var 10) (.c (.tup (.c (.idx (.var 15) (.int 0)) (.c (.idx (.var 10) (.int 1)) (.c (.idx (.var 10) (.int 2)) .nil)))) (.c (.tup (.c (.idx (.var 15) (.int 0)) (.c (.idx (.var 15) (.int 1)) (.c (.idx (.var 10) (.int 2)) .nil)))) (.c (.var 15) .nil))))))) (.c (.asg (.nm 17) (.fz (.cp1 (.tup (.c (.idx (.var 16) (.var 21)) (.c (.idx (.var 16) (.bin .add (.var 21) (.int 1))) .nil))) (.nm 21) (.rg1 (.int 3)) (.s (.cmp .ne (.idx (.var 16) (.var 21)) (.idx (.var 16) (.bin .add (.var 21) (.int 1))))) [21]))) (.c (.ite (.not (.call 21 (.c (.call 7 (.c (.var 10) (.c (.var 15) .nil))) (.c (.var 17) .nil)))) (.c (.ret (.bl false)) .nil) .nil) .nil))))))))))))) .nil))))) (.c (.ret (.call 21 (.c (.call 7 (.c (.tup (.c (.int 0) (.c (.int 0) (.c (.int 12) .nil)))) (.c (.tup (.c (.int 2) (.c (.int 0) (.c (.int 1) .nil)))) .nil))) (.c (.fz (.dsp (.c (.tup (.c (.tup (.c (.int 0) (.c (.int 0) (.c (.int 12) .nil)))) (.c (.tup (.c (.int 2) (.c (.int 0) (.c (.int 12) .nil)))) .nil))) (.c (.tup (.c (.tup (.c (.int 2) (.c (.int 0) (.c (.int 12) .nil)))) (.c (.tup (.c (.int 2) (.c (.int 0) (.c (.int 1) .nil)))) .nil))) .nil)))) .nil)))) .nil)))⟩
def fs : List Fn := [c_size_of, c_fields_beneath, c_fields_about, c_greatest_at, c_is_free, c_is_shank_free, c_cut_at, c_strokes_between, c_stroke_steps, c_stroke_axis, c_swept_bounds, c_block_behind_stroke, c_first_meeting, c_steps_to_height, c_level_strike, c_upright_strike, c_stroke_strike, c__law_flat, c__law_box, c__law_load, c__law_draw, c__law_same, c__law_block, c__law_tools, c__law_window, c__law_top, c__law_stroke, c_law]
def gs : List D := [.str "fast"]
end PV.K43
set_option maxRecDepth 100000
set_option maxHeartbeats 4000000
namespace PV
open PySem
/-! ### operations on ints, pairs -/
def mx (i j : Int) : Int := if j > i then j else i
def mn (i j : Int) : Int := if j < i then j else i
@[simp] theorem blt_max2 {i j : Int} : bltD .max [.int i, .int j] = some (.int (mx i j)) := id rfl
@[simp] theorem blt_min2 {i j : Int} : bltD .min [.int i, .int j] = some (.int (mn i j)) := id rfl
@[simp] theorem blt_len_tup {ds : List D} : bltD .len [.tup ds] = some (.int ds.length) := id rfl
@[simp] theorem blt_len_lst {ds : List D} : bltD .len [.lst ds] = some (.int ds.length) := id rfl
@[simp] theorem blt_len_rol {ds : List D} : bltD .len [.rol ds] = some (.int ds.length) := id rfl
@[simp] theorem blt_int {i : Int} : bltD .int [.int i] = some (.int i) := id rfl
@[simp] theorem blt_abs {i : Int} : bltD .abs [.int i] = some (.int (if i < 0 then -i else i)) := id rfl
@[simp] theorem blt_tupL {ds : List D} : bltD .tup [.lst ds] = some (.tup ds) := id rfl
@[simp] theorem blt_tupT {ds : List D} : bltD .tup [.tup ds] = some (.tup ds) := id rfl
@[simp] theorem bin_add {i j : Int} : binD .add (.int i) (.int j) = some (.int (i + j)) := id rfl
@[simp] theorem bin_sub {i j : Int} : binD .sub (.int i) (.int j) = some (.int (i - j)) := id rfl
@[simp] theorem cmp_lt {i j : Int} : cmpD .lt (.int i) (.int j) = some (decide (i < j)) := id rfl
@[simp] theorem cmp_le {i j : Int} : cmpD .le (.int i) (.int j) = some (decide (i ≤ j)) := id rfl
@[simp] theorem cmp_gt {i j : Int} : cmpD .gt (.int i) (.int j) = some (decide (j < i)) := id rfl
@[simp] theorem cmp_ge {i j : Int} : cmpD .ge (.int i) (.int j) = some (decide (j ≤ i)) := id rfl
@[simp] theorem flatF_nil {f : D → Sto → Out (List D)} {s : Sto} : flatF f [] s = .ok [] s := id rfl
@[simp] theorem flatF_cons {f : D → Sto → Out (List D)} {d : D} {ds : List D} {s : Sto} : flatF f (d :: ds) s = (f d s).bind fun xs s1 => (flatF f ds s1).bind fun ys s2 => .ok (xs ++ ys) s2 := id rfl
def nextL (o : Out Flow) (f : Env → Sto → Out Flow) : Out Flow := o.bind fun fl s => match fl with
    | .nx env' => f env' s
    | .ct env' => f env' s
    | .bk env' => .ok (.nx env') s
    | .ret d => .ok (.ret d) s
@[simp] theorem nextL_nx {f : Env → Sto → Out Flow} {env : Env} {s : Sto} : nextL (.ok (.nx env) s) f = f env s := id rfl
@[simp] theorem nextL_ret {f : Env → Sto → Out Flow} {d : D} {s : Sto} : nextL (.ok (.ret d) s) f = .ok (.ret d) s := id rfl
theorem forF_nil {f : D → Env → Sto → Out Flow} {env : Env} {s : Sto} : forF f [] env s = .ok (.nx env) s := rfl
theorem forF_cons {f : D → Env → Sto → Out Flow} {d : D} {ds : List D} {env : Env} {s : Sto} : forF f (d :: ds) env s = nextL (f d env s) (forF f ds) := rfl
@[simp] theorem idx_0 {a : D} {l : List D} : idxD (.tup (a :: l)) (.int 0) = some a := idx_tup (k := 0) rfl
@[simp] theorem idx_1 {a b : D} {l : List D} : idxD (.tup (a :: b :: l)) (.int 1) = some b := idx_tup (k := 1) rfl
@[simp] theorem idx_2 {a b c : D} {l : List D} : idxD (.tup (a :: b :: c :: l)) (.int 2) = some c := idx_tup (k := 2) rfl
@[simp] theorem idx_3 {a b c d : D} {l : List D} : idxD (.tup (a :: b :: c :: d :: l)) (.int 3) = some d := idx_tup (k := 3) rfl
@[simp] theorem idxL_0 {a : D} {l : List D} : idxD (.lst (a :: l)) (.int 0) = some a := idx_tup (k := 0) rfl
@[simp] theorem idxL_1 {a b : D} {l : List D} : idxD (.lst (a :: b :: l)) (.int 1) = some b := idx_tup (k := 1) rfl
@[simp] theorem idxL_2 {a b c : D} {l : List D} : idxD (.lst (a :: b :: c :: l)) (.int 2) = some c := idx_tup (k := 2) rfl
@[simp] theorem ne_int {i j : Int} : cmpD .ne (.int i) (.int j) = some (!decide (i = j)) := by
  show (eqD (.int i) (.int j)).map (!·) = _
  rfl
@[simp] theorem eq_int {i j : Int} : cmpD .eq (.int i) (.int j) = some (decide (i = j)) := id rfl



def ptD (x y z : Int) : D := .tup [.int x, .int y, .int z]
def pD (p : Int × Int) : D := .tup [.int p.1, .int p.2]
@[simp] theorem slc_02 {a b c : D} : slcD (.tup [a, b, c]) none (some 2) = some (.tup [a, b]) := id rfl
@[simp] theorem slc_00 {a b c : D} : slcD (.tup [a, b, c]) none (some 0) = some (.tup []) := id rfl
@[simp] theorem slc_01 {a b c : D} : slcD (.tup [a, b, c]) none (some 1) = some (.tup [a]) := id rfl
@[simp] theorem slc_1 {a b c : D} : slcD (.tup [a, b, c]) (some 1) none = some (.tup [b, c]) := id rfl
@[simp] theorem slc_2 {a b c : D} : slcD (.tup [a, b, c]) (some 2) none = some (.tup [c]) := id rfl
@[simp] theorem slc_3 {a b c : D} : slcD (.tup [a, b, c]) (some 3) none = some (.tup []) := id rfl
theorem ints_map {l : List Int} : ints? (l.map D.int) = some l := by
  induction l with
  | nil => rfl
  | cons x l ih => show (ints? (l.map D.int)).map (x :: ·) = _; rw [ih]; rfl
theorem max_list {x : Int} {l : List Int} : bltD .max [.lst (D.int x :: l.map D.int)] = some (.int (maxI (x :: l))) := by
  show (match ints? ((x :: l).map D.int) with
    | some (x :: r) => some (D.int (maxI (x :: r)))
    | _ => none) = _
  rw [ints_map]
theorem min_list {x : Int} {l : List Int} : bltD .min [.lst (D.int x :: l.map D.int)] = some (.int (minI (x :: l))) := by
  show (match ints? ((x :: l).map D.int) with
    | some (x :: r) => some (D.int (minI (x :: r)))
    | _ => none) = _
  rw [ints_map]
theorem maxI_le : ∀ {l : List Int} {x z : Int}, maxI (x :: l) ≤ z ↔ x ≤ z ∧ ∀ y ∈ l, y ≤ z
  | [], x, z => by simp [maxI]
  | y :: l, x, z => by
    show max x (maxI (y :: l)) ≤ z ↔ _
    rw [Int.max_le, maxI_le]
    simp
theorem le_minI : ∀ {l : List Int} {x z : Int}, z ≤ minI (x :: l) ↔ z ≤ x ∧ ∀ y ∈ l, z ≤ y
  | [], x, z => by simp [minI]
  | y :: l, x, z => by
    show z ≤ min x (minI (y :: l)) ↔ _
    rw [Int.le_min, le_minI]
    simp
theorem minI_mem : ∀ {l : List Int} {x : Int}, minI (x :: l) ∈ x :: l
  | [], x => by simp [minI]
  | y :: l, x => by
    show min x (minI (y :: l)) ∈ _
    have := minI_mem (l := l) (x := y)
    rcases Int.le_total x (minI (y :: l)) with h | h
    · rw [Int.min_eq_left h]; simp
    · rw [Int.min_eq_right h]; exact List.mem_cons_of_mem _ this
def ir (lo hi : Int) : List Int := (List.range (hi - lo).toNat).map fun i => lo + ((i : Nat) : Int)
theorem mem_ir {lo hi x : Int} : x ∈ ir lo hi ↔ lo ≤ x ∧ x < hi := by
  unfold ir
  rw [List.mem_map]
  constructor
  · rintro ⟨i, hi, rfl⟩
    rw [List.mem_range] at hi
    omega
  · rintro ⟨h1, h2⟩
    exact ⟨(x - lo).toNat, by rw [List.mem_range]; omega, by omega⟩
theorem ir_len {lo hi : Int} : (ir lo hi).length = (hi - lo).toNat := by simp [ir]
theorem rangeL_ir {lo hi : Int} : rangeL lo 1 (hi - lo).toNat = (ir lo hi).map D.int := by
  unfold rangeL ir
  rw [List.map_map]
  refine List.map_congr_left fun i _ => ?_
  simp
theorem rng2_ir {i j : Int} (h : -1000000 ≤ i ∧ i ≤ 1000000 ∧ -1000000 ≤ j ∧ j ≤ 1000000) : rng2? (.int i) (.int j) = some ((ir i j).map D.int) := by
  unfold rng2?
  simp only
  rw [if_pos (by omega), rangeL_ir]
theorem rng1_ir {j : Int} (h : -1000000 ≤ j ∧ j ≤ 1000000) : rng1? (.int j) = some ((ir 0 j).map D.int) := by
  unfold rng1?
  simp only
  rw [if_pos (by omega), ← rangeL_ir]
  simp
theorem flatMap_le {α β : Type} {g : α → List β} {c : Nat} : ∀ {l : List α}, (∀ x ∈ l, (g x).length ≤ c) → (l.flatMap g).length ≤ l.length * c
  | [], _ => by simp
  | x :: l, h => by
    have := flatMap_le (g := g) (c := c) (l := l) fun y hy => h y (List.mem_cons_of_mem _ hy)
    have h1 := h x List.mem_cons_self
    rw [List.flatMap_cons, List.length_append, List.length_cons, Nat.add_mul]
    omega
theorem flatMap_one {α β : Type} {g : α → β} {l : List α} : l.flatMap (fun x => [g x]) = l.map g := by
  induction l with
  | nil => rfl
  | cons x l ih => simp [ih]
def turn1 (cf : Nat → List D → Sto → Out D) (gs : List D) (elt : Ex) (tg : Tg) (cond : OEx) (vs : List Nat) (env : Env) : D → Sto → Out (List D) := fun d s => match bindT tg d (wipeE env vs) with
    | none => .err
    | some env1 => (evC cf gs cond env1 s).bind fun t s => if t = true then (ev cf gs false elt env1 s).bind fun y s => .ok [y] s else .ok [] s
theorem evF_cp1' {cf : Nat → List D → Sto → Out D} {gs : List D} {elt : Ex} {tg : Tg} {it : Src} {cond : OEx} {vs : List Nat} {env : Env} {s : Sto} : evF cf gs (.cp1 elt tg it cond vs) env s = (evI cf gs true it env s).bind fun xs s => (flatF (turn1 cf gs elt tg cond vs (noOwn env)) xs s).bind fun ys s =>
      if ys.length ≤ LINE then .ok ys s else .err := by rw [evF_cp1]; rfl
/-- one clause, each turn one value or none -/
theorem cp1_pure {cf : Nat → List D → Sto → Out D} {gs : List D} {elt : Ex} {tg : Tg} {it : Src} {cond : OEx} {vs : List Nat} {env : Env} {s : Sto} {α : Type} {mk : α → D} {g : α → List D} {xs : List α} (h1 : evI cf gs true it env s = .ok (xs.map mk) s)
    (h2 : ∀ x ∈ xs, turn1 cf gs elt tg cond vs (noOwn env) (mk x) s = .ok (g x) s) (hz : (xs.flatMap g).length ≤ LINE) :
    evF cf gs (.cp1 elt tg it cond vs) env s = .ok (xs.flatMap g) s := by
  rw [evF_cp1', h1, ok_bind, flatF_pure (g := g) h2, ok_bind, if_pos hz]
/-- .. one value each -/
theorem cp1_map {cf : Nat → List D → Sto → Out D} {gs : List D} {elt : Ex} {tg : Tg} {it : Src} {vs : List Nat} {env : Env} {s : Sto} {α : Type} {mk : α → D} {g : α → D} {xs : List α} (h1 : evI cf gs true it env s = .ok (xs.map mk) s)
    (h2 : ∀ x ∈ xs, ∃ env1, bindT tg (mk x) (wipeE (noOwn env) vs) = some env1 ∧ ev cf gs false elt env1 s = .ok (g x) s) (hz : xs.length ≤ LINE) :
    evF cf gs (.cp1 elt tg it .n vs) env s = .ok (xs.map g) s := by
  rw [cp1_pure (g := fun x => [g x]) h1 (fun x hx => ?_) (by rw [flatMap_one]; simpa using hz), flatMap_one]
  obtain ⟨env1, e1, e2⟩ := h2 x hx
  simp [turn1, e1, e2]
/-- two clauses, over values that need no test -/
theorem cp2_pure {cf : Nat → List D → Sto → Out D} {gs : List D} {elt : Ex} {tg tg1 : Tg} {it it1 : Src} {vs vs1 : List Nat} {env : Env} {s : Sto} {α β : Type} {mk : α → D} {mk1 : β → D} {ys : α → List β} {g : α → β → D} {xs : List α} (h1 : evI cf gs true it env s = .ok (xs.map mk) s)
    (h2 : ∀ x ∈ xs, ∃ env1, bindT tg (mk x) (wipeE (noOwn env) vs) = some env1 ∧ evI cf gs false it1 env1 s = .ok ((ys x).map mk1) s ∧ ∀ y ∈ ys x, ∃ env2, bindT tg1 (mk1 y) (wipeE env1 vs1) = some env2 ∧ ev cf gs false elt env2 s = .ok (g x y) s)
    (hz : (xs.flatMap fun x => (ys x).map (g x)).length ≤ LINE) :
    evF cf gs (.cp2 elt tg it .n tg1 it1 .n vs vs1) env s = .ok (xs.flatMap fun x => (ys x).map (g x)) s := by
  rw [evF_cp2, h1, ok_bind, flatF_pure (g := fun x => (ys x).map (g x)) fun x hx => ?_, ok_bind, if_pos hz]
  obtain ⟨env1, e1, e2, e3⟩ := h2 x hx
  simp only [e1, evC_n, ok_bind, if_true, e2]
  rw [flatF_pure (g := fun y => [g x y]) fun y hy => ?_, flatMap_one]
  obtain ⟨env2, e4, e5⟩ := e3 y hy
  simp [e4, e5]
/-- a loop that only appends -/
theorem forF_app {α κ : Type} {f : D → Env → Sto → Out Flow} {mk : α → D} {E : List D → κ → Env} {g : α → List D} {s : Sto} {M c : Nat} : ∀ {xs : List α}, (∀ x ∈ xs, ∀ acc k, acc.length ≤ M → ∃ k', f (mk x) (E acc k) s = .ok (.nx (E (acc ++ g x) k')) s) → (∀ x ∈ xs, (g x).length ≤ c) →
    ∀ acc k, acc.length + xs.length * c ≤ M → ∃ k', forF f (xs.map mk) (E acc k) s = .ok (.nx (E (acc ++ xs.flatMap g) k')) s
  | [], _, _, acc, k, _ => ⟨k, by simp [forF_nil]⟩
  | x :: xs, h, hc, acc, k, hM => by
    rw [List.length_cons, Nat.add_mul] at hM
    obtain ⟨k1, e1⟩ := h x List.mem_cons_self acc k (by omega)
    have h1 := hc x List.mem_cons_self
    obtain ⟨k2, e2⟩ := forF_app (f := f) (mk := mk) (E := E) (g := g) (s := s) (M := M) (c := c) (xs := xs) (fun y hy => h y (List.mem_cons_of_mem _ hy)) (fun y hy => hc y (List.mem_cons_of_mem _ hy)) (acc ++ g x) k1 (by rw [List.length_append]; omega)
    refine ⟨k2, ?_⟩
    rw [List.map_cons, forF_cons, e1, nextL_nx, e2, List.flatMap_cons, List.append_assoc]
end PV
namespace PV.K43
open PySem PV
theorem sc {n k : Nat} (h : k + 1 ≤ n) : ∃ m, n = m + 1 ∧ k ≤ m := ⟨n - 1, by omega, by omega⟩
def fmD (f b e lo hi : Int) : D :=
  if b < e then (if mx (b + 1) (f - hi) ≤ mn e (f + lo) then .int (mx (b + 1) (f - hi) - b) else .non)
  else (if mx e (f - hi) ≤ mn (b - 1) (f + lo) then .int (b - mn (b - 1) (f + lo)) else .non)
section
variable {n : Nat} {s : Sto}
theorem e_first {f b e lo hi : Int} (hn : 1 ≤ n) : callF fs gs n 12 [.int f, .int b, .int e, .tup [.int lo, .int hi]] s = .ok (fmD f b e lo hi) s := by
  obtain ⟨m, rfl, hm⟩ := sc hn
  rw [call_at (f := c_first_meeting) rfl rfl]
  unfold fmD
  by_cases h : b < e
  · by_cases h2 : mx (b + 1) (f - hi) ≤ mn e (f + lo) <;> simp [c_first_meeting, startE, frzR, List.replicate, h, h2]
  · by_cases h2 : mx e (f - hi) ≤ mn (b - 1) (f + lo) <;> simp [c_first_meeting, startE, frzR, List.replicate, h, h2]
/-! ### blocks -/
def rowD (W : Nat) (f : Int → Int → Int) (b : Nat) : D := .tup ((List.range W).map fun (a : Nat) => .int (f a b))
def bD (W H : Nat) (f : Int → Int → Int) : D := .tup ((List.range H).map (rowD W f))
variable {W H : Nat} {f : Int → Int → Int}
@[simp] theorem deref_row {b : Nat} : deref s (rowD W f b) = rowD W f b := id rfl
@[simp] theorem deref_bD : deref s (bD W H f) = bD W H f := id rfl
@[simp] theorem len_row {b : Nat} : bltD .len [rowD W f b] = some (.int W) := by unfold rowD; simp
@[simp] theorem len_bD : bltD .len [bD W H f] = some (.int H) := by unfold bD; simp
theorem idx_bD {y : Int} (h : 0 ≤ y ∧ y < H) : idxD (bD W H f) (.int y) = some (rowD W f y.toNat) := by
  have e : y = (y.toNat : Nat) := by omega
  rw [e]
  exact idx_tup (by rw [List.getElem?_map, List.getElem?_range (by omega)]; rfl)
theorem idx_row {x : Int} {b : Nat} (h : 0 ≤ x ∧ x < W) : idxD (rowD W f b) (.int x) = some (.int (f x b)) := by
  have e : x = (x.toNat : Nat) := by omega
  rw [e]
  exact idx_tup (by rw [List.getElem?_map, List.getElem?_range (by omega)]; rfl)
theorem e_size (hn : 1 ≤ n) (hH : 0 < H) : callF fs gs n 0 [bD W H f] s = .ok (.tup [.int W, .int H]) s := by
  obtain ⟨m, rfl, hm⟩ := sc hn
  rw [call_at (f := c_size_of) rfl rfl]
  simp [c_size_of, startE, frzR, List.replicate, idx_bD (W := W) (H := H) (f := f) (y := 0) (by omega)]
/-! ### fields -/
def benF (sd x y : Int) : List (Int × Int) := (ir y (y + sd)).flatMap fun b => (ir x (x + sd)).map fun a => (a, b)
theorem mem_ben {sd x y : Int} {p : Int × Int} : p ∈ benF sd x y ↔ (x ≤ p.1 ∧ p.1 < x + sd) ∧ y ≤ p.2 ∧ p.2 < y + sd := by
  unfold benF
  simp only [List.mem_flatMap, List.mem_map, mem_ir]
  constructor
  · rintro ⟨b, hb, a, ha, rfl⟩; exact ⟨ha, hb⟩
  · rintro ⟨h1, h2⟩; exact ⟨p.2, h2, p.1, h1, rfl⟩
theorem e_ben {nm sh rm : D} {sd x y : Int} (hn : 1 ≤ n) (h1 : 0 ≤ sd ∧ sd ≤ 3) (h2 : 0 ≤ x ∧ x ≤ 1000) (h3 : 0 ≤ y ∧ y ≤ 1000) : callF fs gs n 1 [.tup [nm, .int sd, sh, rm], .tup [.int x, .int y]] s = .ok (.lst ((benF sd x y).map pD)) s := by
  obtain ⟨m, rfl, hm⟩ := sc hn
  rw [call_at (f := c_fields_beneath) rfl rfl]
  have e : ∀ env, env = [some (SV.val (.tup [nm, .int sd, sh, rm])), some (.val (.tup [.int x, .int y])), some (.val (.int x)), some (.val (.int y)), none, none] → evF (callF fs gs m) gs (.cp2 (.tup (.c (.var 5) (.c (.var 4) .nil))) (.nm 4) (.rg2 (.var 3) (.bin .add (.var 3) (.idx (.var 0) (.int 1)))) .n (.nm 5) (.rg2 (.var 2) (.bin .add (.var 2) (.idx (.var 0) (.int 1)))) .n [4, 5] [5]) env s = .ok ((benF sd x y).map pD) s := by
    rintro env rfl
    rw [cp2_pure (xs := ir y (y + sd)) (mk := D.int) (mk1 := D.int) (ys := fun _ => ir x (x + sd)) (g := fun b a => .tup [.int a, .int b])]
    · unfold benF; rw [List.map_flatMap]; simp only [List.map_map]; rfl
    · simp [rng2_ir (i := y) (j := y + sd) (by omega)]
    · intro b hb
      refine ⟨_, rfl, by simp [noOwn, wipeE, rng2_ir (i := x) (j := x + sd) (by omega)], fun a ha => ⟨_, rfl, by simp [noOwn, wipeE]⟩⟩
    · refine Nat.le_trans (flatMap_le (c := 3) fun b hb => by simp [ir_len]; omega) ?_
      rw [ir_len]; have : (y + sd - y).toNat ≤ 3 := by omega
      show _ ≤ 16777216
      omega
  simp [c_fields_beneath, startE, frzR, List.replicate, e _ rfl]
end
end PV.K43
set_option maxRecDepth 100000
set_option maxHeartbeats 4000000
namespace PV
open PySem
@[simp] theorem ne_pt {x y z x' y' z' : Int} : cmpD .ne (ptD x y z) (ptD x' y' z') = some (!decide (x = x' ∧ y = y' ∧ z = z')) := by
  have e : cmpD .ne (ptD x y z) (ptD x' y' z') = some (!(x == x' && (y == y' && (z == z' && true)))) := rfl
  rw [e]
  by_cases h1 : x = x' <;> by_cases h2 : y = y' <;> by_cases h3 : z = z' <;> simp [h1, h2, h3]
@[simp] theorem ne_pt' {x y z x' y' z' : Int} : cmpD .ne (.tup [.int x, .int y, .int z]) (.tup [.int x', .int y', .int z']) = some (!decide (x = x' ∧ y = y' ∧ z = z')) := ne_pt
end PV
namespace PV.K43
open PySem PV
section
variable {n : Nat} {s : Sto} {W H : Nat} {f : Int → Int → Int}
/-! ### fields about -/
def abRow (sd rm x y : Int) (W : Nat) (b : Int) : List (Int × Int) := (ir (mx 0 (x - rm)) (mn W (x + sd + rm))).flatMap fun a => if (x ≤ a ∧ a < x + sd) ∧ y ≤ b ∧ b < y + sd then [] else [(a, b)]
def abF (sd rm x y : Int) (W H : Nat) : List (Int × Int) := (ir (mx 0 (y - rm)) (mn H (y + sd + rm))).flatMap (abRow sd rm x y W)
theorem mem_ab {sd rm x y : Int} {p : Int × Int} : p ∈ abF sd rm x y W H ↔ ((0 ≤ p.1 ∧ p.1 < W) ∧ 0 ≤ p.2 ∧ p.2 < H) ∧ ((x - rm ≤ p.1 ∧ p.1 < x + sd + rm) ∧ y - rm ≤ p.2 ∧ p.2 < y + sd + rm) ∧ ¬ ((x ≤ p.1 ∧ p.1 < x + sd) ∧ y ≤ p.2 ∧ p.2 < y + sd) := by
  unfold abF abRow
  simp only [List.mem_flatMap, mem_ir]
  unfold mx mn
  constructor
  · rintro ⟨b, hb, a, ha, h⟩
    split at h
    · cases h
    · rename_i hh
      rw [List.mem_singleton] at h
      subst h
      refine ⟨?_, ?_, hh⟩
      · split at ha <;> split at ha <;> split at hb <;> split at hb <;> simp only <;> omega
      · split at ha <;> split at ha <;> split at hb <;> split at hb <;> simp only <;> omega
  · rintro ⟨h1, h2, h3⟩
    refine ⟨p.2, by split <;> split <;> omega, p.1, by split <;> split <;> omega, ?_⟩
    rw [if_neg h3]; simp
def EA (W H : Nat) (tool : D) (sd rm x y : Int) (L : List D) (ob oa : Option SV) : Env :=
  [some (.val (.tup [.int W, .int H])), some (.val tool), some (.val (.tup [.int x, .int y])), some (.val (.int x)), some (.val (.int y)), some (.val (.int rm)), some (.val (.int sd)), some (.own L), ob, oa]
def bInner : Sms := (.c (.ite (.not (.bop true (.c (.chn .le .lt (.var 3) (.var 9) (.bin .add (.var 3) (.var 6))) (.c (.chn .le .lt (.var 4) (.var 8) (.bin .add (.var 4) (.var 6))) .nil)))) (.c (.app 7 (.tup (.c (.var 9) (.c (.var 8) .nil)))) .nil) .nil) .nil)
def iInner : Src := (.rg2 (.blt .max (.c (.int 0) (.c (.bin .sub (.var 3) (.var 5)) .nil))) (.blt .min (.c (.idx (.var 0) (.int 0)) (.c (.bin .add (.bin .add (.var 3) (.var 6)) (.var 5)) .nil))))
def iOuter : Src := (.rg2 (.blt .max (.c (.int 0) (.c (.bin .sub (.var 4) (.var 5)) .nil))) (.blt .min (.c (.idx (.var 0) (.int 1)) (.c (.bin .add (.bin .add (.var 4) (.var 6)) (.var 5)) .nil))))
theorem ir_le {hi : Int} {x : Int} {W : Nat} : (ir (mx 0 x) (mn W hi)).length ≤ W := by
  rw [ir_len]; unfold mx mn; split <;> split <;> omega
theorem map_if {α : Type} {c : Prop} [Decidable c] {p : α} {g : α → D} : (if c then [] else [p]).map g = if c then [] else [g p] := by split <;> rfl
section
variable {tool : D} {sd rm x y : Int} (hsd : 0 ≤ sd ∧ sd ≤ 3) (hrm : 0 ≤ rm ∧ rm ≤ 1) (hx : 0 ≤ x ∧ x ≤ 1000) (hy : 0 ≤ y ∧ y ≤ 1000) (hW : W ≤ 10) (hH : H ≤ 10)
theorem abRow_le {b : Int} : ((abRow sd rm x y W b).map pD).length ≤ W * 1 := by
  rw [List.length_map]
  refine Nat.le_trans (flatMap_le (c := 1) fun a _ => by split <;> simp) ?_
  exact Nat.mul_le_mul_right _ ir_le
include hsd hrm hx hW in
theorem ab_inner {b : Int} {L : List D} {oa : Option SV} (hL : L.length ≤ 1000) :
    ∃ oa', exec (callF fs gs n) gs (.for (.nm 9) iInner bInner) (EA W H tool sd rm x y L (some (.val (.int b))) oa) s = .ok (.nx (EA W H tool sd rm x y (L ++ (abRow sd rm x y W b).map pD) (some (.val (.int b))) oa')) s := by
  rw [exec_for]
  have hr := rng2_ir (i := mx 0 (x - rm)) (j := mn W (x + sd + rm)) (by unfold mx mn; split <;> split <;> omega)
  have e : frzI (EA W H tool sd rm x y L (some (.val (.int b))) oa) iInner = EA W H tool sd rm x y L (some (.val (.int b))) oa := rfl
  have e1 : evI (callF fs gs n) gs false iInner (EA W H tool sd rm x y L (some (.val (.int b))) oa) s = .ok ((ir (mx 0 (x - rm)) (mn W (x + sd + rm))).map D.int) s := by
    simp [iInner, EA, hr]
  rw [e, e1, ok_bind]
  have key := forF_app (f := stepF (callF fs gs n) gs (.nm 9) bInner) (mk := D.int) (E := fun acc oa => EA W H tool sd rm x y acc (some (.val (.int b))) oa) (g := fun a => (if (x ≤ a ∧ a < x + sd) ∧ y ≤ b ∧ b < y + sd then [] else [(a, b)]).map pD) (s := s) (M := 2000) (c := 1)
    (xs := ir (mx 0 (x - rm)) (mn W (x + sd + rm))) (fun a _ acc k hl => ⟨some (.val (.int a)), by
      have hz : acc.length < LINE := by show _ < 16777216; omega
      unfold stepF
      simp only [bindT_nm, EA]
      by_cases c1 : x ≤ a <;> by_cases c2 : a < x + sd <;> by_cases c3 : y ≤ b <;> by_cases c4 : b < y + sd <;> simp [bInner, c1, c2, c3, c4, chg, hz, pD]⟩) (fun a _ => by split <;> simp) L oa (by have := ir_le (hi := x + sd + rm) (x := x - rm) (W := W); omega)
  obtain ⟨k', e2⟩ := key
  refine ⟨k', ?_⟩
  rw [e2]
  unfold abRow
  rw [List.map_flatMap]
include hsd hrm hx hy hW hH in
theorem e_about {nm sh : D} (hn : 1 ≤ n) : callF fs gs n 2 [.tup [.int W, .int H], .tup [nm, .int sd, sh, .int rm], .tup [.int x, .int y]] s = .ok (.lst ((abF sd rm x y W H).map pD)) s := by
  obtain ⟨m, rfl, hm⟩ := sc hn
  rw [call_at (f := c_fields_about) rfl rfl]
  have hr := rng2_ir (i := mx 0 (y - rm)) (j := mn H (y + sd + rm)) (by unfold mx mn; split <;> split <;> omega)
  have key : ∃ env', exec (callF fs gs m) gs (.for (.nm 8) iOuter (.c (.for (.nm 9) iInner bInner) .nil)) (EA W H (.tup [nm, .int sd, sh, .int rm]) sd rm x y [] none none) s = .ok (.nx env') s ∧ ∃ ob oa, env' = EA W H (.tup [nm, .int sd, sh, .int rm]) sd rm x y ((abF sd rm x y W H).map pD) ob oa := by
    rw [exec_for]
    have e : frzI (EA W H (.tup [nm, .int sd, sh, .int rm]) sd rm x y [] none none) iOuter = EA W H (.tup [nm, .int sd, sh, .int rm]) sd rm x y [] none none := rfl
    have e1 : evI (callF fs gs m) gs false iOuter (EA W H (.tup [nm, .int sd, sh, .int rm]) sd rm x y [] none none) s = .ok ((ir (mx 0 (y - rm)) (mn H (y + sd + rm))).map D.int) s := by
      simp [iOuter, EA, hr]
    rw [e, e1, ok_bind]
    have key := forF_app (f := stepF (callF fs gs m) gs (.nm 8) (.c (.for (.nm 9) iInner bInner) .nil)) (mk := D.int) (E := fun acc (k : Option SV × Option SV) => EA W H (.tup [nm, .int sd, sh, .int rm]) sd rm x y acc k.1 k.2) (g := fun b => (abRow sd rm x y W b).map pD) (s := s) (M := 500) (c := W * 1)
      (xs := ir (mx 0 (y - rm)) (mn H (y + sd + rm))) (fun b _ acc k hl => by
        obtain ⟨oa', e2⟩ := ab_inner (n := m) (s := s) (W := W) (H := H) (tool := .tup [nm, .int sd, sh, .int rm]) (y := y) hsd hrm hx hW (b := b) (L := acc) (oa := k.2) (by omega)
        refine ⟨(some (.val (.int b)), oa'), ?_⟩
        unfold stepF
        have e3 : bindT (.nm 8) (.int b) (EA W H (.tup [nm, .int sd, sh, .int rm]) sd rm x y acc k.1 k.2) = some (EA W H (.tup [nm, .int sd, sh, .int rm]) sd rm x y acc (some (.val (.int b))) k.2) := rfl
        simp only [e3, execs_c, e2, nextF_nx, execs_nil]) (fun b _ => abRow_le) [] (none, none) (by
          have := ir_le (hi := y + sd + rm) (x := y - rm) (W := H)
          have := Nat.mul_le_mul this (Nat.mul_le_mul_right 1 hW)
          simp only [List.length_nil]
          omega)
    obtain ⟨k', e2⟩ := key
    refine ⟨_, e2, k'.1, k'.2, ?_⟩
    unfold abF
    rw [List.map_flatMap, List.nil_append]
  obtain ⟨env', k1, ob, oa, rfl⟩ := key
  simp only [c_fields_about, startE, execs_c]
  simp [List.replicate]
  have e3 := k1
  simp only [EA, iOuter, iInner, bInner] at e3
  rw [e3]
  simp [frzR, frzAt, EA]
end
/-! ### the greatest height -/
def gr (f : Int → Int → Int) (L : List (Int × Int)) : Int := maxI (0 :: L.map fun p => f p.1 p.2)
theorem gr_le {L : List (Int × Int)} {z : Int} : gr f L ≤ z ↔ 0 ≤ z ∧ ∀ p ∈ L, f p.1 p.2 ≤ z := by
  unfold gr
  rw [maxI_le]
  refine ⟨fun ⟨a, b⟩ => ⟨a, fun p hp => b _ (List.mem_map.mpr ⟨p, hp, rfl⟩)⟩, fun ⟨a, b⟩ => ⟨a, fun y hy => ?_⟩⟩
  obtain ⟨p, hp, rfl⟩ := List.mem_map.mp hy
  exact b p hp
def InB (W H : Nat) (p : Int × Int) : Prop := (0 ≤ p.1 ∧ p.1 < W) ∧ 0 ≤ p.2 ∧ p.2 < H
theorem e_great {L : List (Int × Int)} (hn : 1 ≤ n) (hL : ∀ p ∈ L, InB W H p) (hz : L.length ≤ 10000) : callF fs gs n 3 [bD W H f, .lst (L.map pD)] s = .ok (.int (gr f L)) s := by
  obtain ⟨m, rfl, hm⟩ := sc hn
  rw [call_at (f := c_greatest_at) rfl rfl]
  have e : ∀ env, env = [some (SV.val (bD W H f)), some (.val (.lst (L.map pD))), none, none] → evF (callF fs gs m) gs (.cp1 (.idx (.idx (.var 0) (.var 3)) (.var 2)) (.tp (.c (.nm 2) (.c (.nm 3) .nil))) (.seq (.var 1)) .n [2, 3]) env s = .ok (L.map fun p => D.int (f p.1 p.2)) s := by
    rintro env rfl
    refine cp1_map (xs := L) (mk := pD) (g := fun p => D.int (f p.1 p.2)) (by simp [items?]) (fun p hp => ?_) (by show _ ≤ 16777216; omega)
    obtain ⟨h1, h2⟩ := hL p hp
    have e2 : ((p.2.toNat : Nat) : Int) = p.2 := by omega
    exact ⟨_, rfl, by simp [noOwn, wipeE, idx_bD h2, idx_row h1, e2]⟩
  have e4 : binD .add (.lst [D.int 0]) (.lst (L.map fun p => D.int (f p.1 p.2))) = some (.lst (D.int 0 :: (L.map fun p => f p.1 p.2).map D.int)) := by
    show (if [D.int 0].length + (L.map fun p => D.int (f p.1 p.2)).length ≤ LINE then some (D.lst ([D.int 0] ++ (L.map fun p => D.int (f p.1 p.2)))) else none) = _
    rw [if_pos (by simp; show _ ≤ 16777216; omega)]
    simp [List.map_map]
  have e5 : bltD .max [.lst (D.int 0 :: List.map (D.int ∘ fun p => f p.1 p.2) L)] = some (.int (gr f L)) := by rw [← List.map_map]; exact max_list
  simp [c_greatest_at, startE, frzR, List.replicate, e _ rfl, e4, e5]
/-! ### free -/
variable {nm : D} {sd sh rm x y z : Int} (hsd : 0 ≤ sd ∧ sd ≤ 3) (hrm : 0 ≤ rm ∧ rm ≤ 1) (hx : 0 ≤ x ∧ x + sd ≤ W) (hy : 0 ≤ y ∧ y + sd ≤ H) (hW : 0 < W ∧ W ≤ 10) (hH : 0 < H ∧ H ≤ 10)
include hsd hx hy hW hH in
theorem ben_in : ∀ p ∈ benF sd x y, InB W H p := fun p hp => by
  rw [mem_ben] at hp
  exact ⟨by omega, by omega⟩
theorem ab_in : ∀ p ∈ abF sd rm x y W H, InB W H p := fun p hp => (mem_ab.mp hp).1
include hsd in
theorem ben_len : (benF sd x y).length ≤ 9 := by
  refine Nat.le_trans (flatMap_le (c := 3) fun b hb => by simp [ir_len]; omega) ?_
  rw [ir_len]; have : (y + sd - y).toNat ≤ 3 := by omega
  omega
include hW hH in
theorem ab_len : (abF sd rm x y W H).length ≤ 100 := by
  refine Nat.le_trans (flatMap_le (c := W) fun b hb => ?_) ?_
  · refine Nat.le_trans (flatMap_le (c := 1) fun a _ => by split <;> simp) ?_
    have := ir_le (hi := x + sd + rm) (x := x - rm) (W := W); omega
  · have := ir_le (hi := y + sd + rm) (x := y - rm) (W := H)
    refine Nat.le_trans (Nat.mul_le_mul this (Nat.le_refl W)) ?_
    exact Nat.mul_le_mul hH.2 hW.2
include hsd hx hy hW hH in
theorem e_free (hn : 2 ≤ n) : callF fs gs n 4 [bD W H f, .tup [nm, .int sd, .int sh, .int rm], ptD x y z] s = .ok (.bl (decide (gr f (benF sd x y) ≤ z))) s := by
  obtain ⟨m, rfl, hm⟩ := sc hn
  rw [call_at (f := c_is_free) rfl rfl]
  have e1 := e_ben (n := m) (s := s) (nm := nm) (sh := .int sh) (rm := .int rm) (sd := sd) (x := x) (y := y) hm hsd (by omega) (by omega)
  have e2 := e_great (n := m) (s := s) (W := W) (H := H) (f := f) (L := benF sd x y) hm (ben_in hsd hx hy hW hH) (by have := ben_len (x := x) (y := y) hsd; omega)
  simp [c_is_free, startE, frzR, List.replicate, ptD, e1, e2, borrows, isOwn]
include hsd hrm hx hy hW hH in
theorem e_shank (hn : 2 ≤ n) : callF fs gs n 5 [bD W H f, .tup [nm, .int sd, .int sh, .int rm], ptD x y z] s = .ok (.bl (decide (gr f (benF sd x y ++ abF sd rm x y W H) ≤ z + sh))) s := by
  obtain ⟨m, rfl, hm⟩ := sc hn
  rw [call_at (f := c_is_shank_free) rfl rfl]
  have e0 := e_size (n := m) (s := s) (W := W) (H := H) (f := f) hm hH.1
  have e1 := e_ben (n := m) (s := s) (nm := nm) (sh := .int sh) (rm := .int rm) (sd := sd) (x := x) (y := y) hm hsd (by omega) (by omega)
  have e3 := e_about (n := m) (s := s) (W := W) (H := H) (nm := nm) (sh := .int sh) hsd hrm (x := x) (y := y) (by omega) (by omega) hW.2 hH.2 hm
  have l1 := ben_len (x := x) (y := y) hsd
  have l2 := ab_len (sd := sd) (rm := rm) (x := x) (y := y) hW hH
  have e2 := e_great (n := m) (s := s) (W := W) (H := H) (f := f) (L := benF sd x y ++ abF sd rm x y W H) hm (fun p hp => (List.mem_append.mp hp).elim (ben_in hsd hx hy hW hH p) (ab_in p)) (by rw [List.length_append]; omega)
  have e4 : binD .add (.lst ((benF sd x y).map pD)) (.lst ((abF sd rm x y W H).map pD)) = some (.lst ((benF sd x y ++ abF sd rm x y W H).map pD)) := by
    show (if _ then some (D.lst (_ ++ _)) else none) = _
    rw [if_pos (by simp only [List.length_map]; show _ ≤ 16777216; omega), List.map_append]
  rw [List.map_append] at e2 e4
  simp [c_is_shank_free, startE, frzR, List.replicate, ptD, e0, e1, e3, e4, e2, borrows, isOwn]
/-! ### cutting -/
def cutf (sd x y z : Int) (f : Int → Int → Int) : Int → Int → Int := fun a b => if (y ≤ b ∧ b < y + sd) ∧ x ≤ a ∧ a < x + sd then mn (f a b) z else f a b
theorem enum_map {α : Type} {g : Nat → D} {N : Nat} : enum? (.tup ((List.range N).map g)) = some ((List.range N).map fun i => .tup [.int (i : Nat), g i]) := by
  show some ((List.range ((List.range N).map g).length).zipWith (fun (i : Nat) d => D.tup [.int i, d]) ((List.range N).map g)) = _
  rw [List.length_map, List.length_range, List.zipWith_map_right, List.zipWith_self]
def EC (B t p : D) (x y z sd : Int) (L : List D) (o1 o2 o3 : Option SV) : Env :=
  [some (.val B), some (.val t), some (.val p), some (.val (.int x)), some (.val (.int y)), some (.val (.int z)), some (.val (.int sd)), some (.own L), o1, o2, o3, none, none]
theorem enum_bD : enum? (bD W H f) = some ((List.range H).map fun i => .tup [.int (i : Nat), rowD W f i]) := enum_map (α := Nat)
theorem enum_row {b : Nat} : enum? (rowD W f b) = some ((List.range W).map fun i => .tup [.int (i : Nat), .int (f i b)]) := enum_map (α := Nat)
end
end PV.K43
set_option maxRecDepth 100000
set_option maxHeartbeats 4000000
namespace PV.K43
open PySem PV
section
variable {n : Nat} {s : Sto} {W H : Nat} {f : Int → Int → Int} {nm : D} {sd sh rm x y z : Int} 
def bCut : Sms := (.c (.asg (.nm 10) (.chn .le .lt (.var 4) (.var 8) (.bin .add (.var 4) (.var 6)))) (.c (.app 7 (.blt .tup (.c (.fz (.cp1 (.ite (.bop true (.c (.var 10) (.c (.chn .le .lt (.var 3) (.var 11) (.bin .add (.var 3) (.var 6))) .nil))) (.blt .min (.c (.var 12) (.c (.var 5) .nil))) (.var 12)) (.tp (.c (.nm 11) (.c (.nm 12) .nil))) (.enm (.var 9)) .n [11, 12])) .nil))) .nil))
theorem flatMap_rows {g : Nat → D} : (List.range H).flatMap (fun i => [g i]) = (List.range H).map g := flatMap_one
theorem e_cut (hW : W ≤ 10) (hH : H ≤ 10) (hn : 1 ≤ n) : callF fs gs n 6 [bD W H f, .tup [nm, .int sd, .int sh, .int rm], ptD x y z] s = .ok (bD W H (cutf sd x y z f)) s := by
  obtain ⟨m, rfl, hm⟩ := sc hn
  rw [call_at (f := c_cut_at) rfl rfl]
  have key := forF_app (f := stepF (callF fs gs m) gs (.tp (.c (.nm 8) (.c (.nm 9) .nil))) bCut) (mk := fun i => .tup [.int (i : Nat), rowD W f i]) (E := fun acc (k : Option SV × Option SV × Option SV) => EC (bD W H f) (.tup [nm, .int sd, .int sh, .int rm]) (ptD x y z) x y z sd acc k.1 k.2.1 k.2.2)
    (g := fun i => [rowD W (cutf sd x y z f) i]) (s := s) (M := 500) (c := 1) (xs := List.range H) (fun i _ acc k hl => by
      have hz : acc.length < LINE := by show _ < 16777216; omega
      refine ⟨(some (.val (.int (i : Nat))), some (.val (rowD W f i)), some (.val (.bl (decide (y ≤ i ∧ i < y + sd))))), ?_⟩
      unfold stepF
      have e : ∀ env, env = EC (bD W H f) (.tup [nm, .int sd, .int sh, .int rm]) (ptD x y z) x y z sd acc (some (.val (.int (i : Nat)))) (some (.val (rowD W f i))) (some (.val (.bl (decide (y ≤ i ∧ i < y + sd))))) → evF (callF fs gs m) gs (.cp1 (.ite (.bop true (.c (.var 10) (.c (.chn .le .lt (.var 3) (.var 11) (.bin .add (.var 3) (.var 6))) .nil))) (.blt .min (.c (.var 12) (.c (.var 5) .nil))) (.var 12)) (.tp (.c (.nm 11) (.c (.nm 12) .nil))) (.enm (.var 9)) .n [11, 12]) env s = .ok ((List.range W).map fun (a : Nat) => D.int (cutf sd x y z f a i)) s := by
        rintro env rfl
        refine cp1_map (xs := List.range W) (mk := fun j => .tup [.int (j : Nat), .int (f j i)]) (g := fun (a : Nat) => D.int (cutf sd x y z f a i)) (by simp [EC, enum_row]) (fun j hj => ⟨_, rfl, ?_⟩) (by simp; show _ ≤ 16777216; omega)
        by_cases c1 : y ≤ i <;> by_cases c2 : (i : Int) < y + sd <;> by_cases c3 : x ≤ j <;> by_cases c4 : (j : Int) < x + sd <;> simp [EC, noOwn, wipeE, c1, c2, c3, c4, cutf]
      have e2 := e _ rfl
      have e7 : D.tup (List.map (fun (a : Nat) => D.int (cutf sd x y z f a i)) (List.range W)) = rowD W (cutf sd x y z f) i := rfl
      by_cases c1 : y ≤ i <;> by_cases c2 : (i : Int) < y + sd <;> simp [EC, c1, c2] at e2 <;> simp [bCut, EC, c1, c2, e2, chg, hz, e7]) (fun i _ => by simp) [] (none, none, none) (by simp; omega)
  obtain ⟨k', e1⟩ := key
  rw [flatMap_rows] at e1
  have e3 : ∀ env, env = EC (bD W H f) (.tup [nm, .int sd, .int sh, .int rm]) (ptD x y z) x y z sd [] none none none → exec (callF fs gs m) gs (.for (.tp (.c (.nm 8) (.c (.nm 9) .nil))) (.enm (.var 0)) bCut) env s = .ok (.nx (EC (bD W H f) (.tup [nm, .int sd, .int sh, .int rm]) (ptD x y z) x y z sd ((List.range H).map (rowD W (cutf sd x y z f))) k'.1 k'.2.1 k'.2.2)) s := by
    rintro env rfl
    rw [exec_for]
    have e4 : frzI (EC (bD W H f) (.tup [nm, .int sd, .int sh, .int rm]) (ptD x y z) x y z sd [] none none none) (.enm (.var 0)) = EC (bD W H f) (.tup [nm, .int sd, .int sh, .int rm]) (ptD x y z) x y z sd [] none none none := rfl
    have e5 : evI (callF fs gs m) gs false (.enm (.var 0)) (EC (bD W H f) (.tup [nm, .int sd, .int sh, .int rm]) (ptD x y z) x y z sd [] none none none) s = .ok ((List.range H).map fun i => .tup [.int (i : Nat), rowD W f i]) s := by
      simp [EC, enum_bD]
    rw [e4, e5, ok_bind, e1]
    simp
  have e6 := e3 _ rfl
  simp only [EC, bCut, ptD] at e6
  have e8 : D.tup ((List.range H).map (rowD W (cutf sd x y z f))) = bD W H (cutf sd x y z f) := rfl
  simp [c_cut_at, startE, List.replicate, ptD, e6, frzR, e8]
/-! ### a stroke's axis, its bounds -/
variable {x' y' z' : Int}
def axisI (x y z x' y' z' : Int) : Int := if x ≠ x' then 0 else if y ≠ y' then 1 else 2
theorem e_axis (hn : 1 ≤ n) (hd : ¬ (x = x' ∧ y = y' ∧ z = z')) : callF fs gs n 9 [ptD x y z, ptD x' y' z'] s = .ok (.int (axisI x y z x' y' z')) s := by
  obtain ⟨m, rfl, hm⟩ := sc hn
  rw [call_at (f := c_stroke_axis) rfl rfl]
  unfold axisI
  by_cases c1 : x = x' <;> by_cases c2 : y = y' <;> by_cases c3 : z = z' <;> simp [c_stroke_axis, startE, frzR, List.replicate, ptD, evF_cp1', turn1, items?, noOwn, wipeE, c1, c2, c3, LINE]
  exact (hd ⟨c1, c2, c3⟩).elim
theorem e_bounds {nm sh rm : D} (hn : 1 ≤ n) : callF fs gs n 10 [.tup [nm, .int sd, sh, rm], ptD x y z, ptD x' y' z'] s = .ok (.tup [.tup [.int (mn x x'), .int (mn y y')], .tup [.int (mx x x' + sd - 1), .int (mx y y' + sd - 1)]]) s := by
  obtain ⟨m, rfl, hm⟩ := sc hn
  rw [call_at (f := c_swept_bounds) rfl rfl]
  simp [c_swept_bounds, startE, frzR, List.replicate, ptD]
/-! ### behind a stroke -/
def behf (sd x y z x' y' z' : Int) (f : Int → Int → Int) : Int → Int → Int := fun a b => if (mn y y' ≤ b ∧ b ≤ mx y y' + sd - 1) ∧ mn x x' ≤ a ∧ a ≤ mx x x' + sd - 1 then mn (f a b) (mn z z') else f a b
def EB (B t p q : D) (fi lo la hi z : Int) (L : List D) (o1 o2 o3 : Option SV) : Env :=
  [some (.val B), some (.val t), some (.val p), some (.val q), some (.val (.int fi)), some (.val (.int lo)), some (.val (.int la)), some (.val (.int hi)), some (.val (.int z)), some (.own L), o1, o2, o3, none, none]
def bBeh : Sms := (.c (.asg (.nm 12) (.chn .le .le (.var 5) (.var 10) (.var 7))) (.c (.app 9 (.blt .tup (.c (.fz (.cp1 (.ite (.bop true (.c (.var 12) (.c (.chn .le .le (.var 4) (.var 13) (.var 6)) .nil))) (.blt .min (.c (.var 14) (.c (.var 8) .nil))) (.var 14)) (.tp (.c (.nm 13) (.c (.nm 14) .nil))) (.enm (.var 11)) .n [13, 14])) .nil))) .nil))
def bhf (fi lo la hi z : Int) (f : Int → Int → Int) : Int → Int → Int := fun a b => if (lo ≤ b ∧ b ≤ hi) ∧ fi ≤ a ∧ a ≤ la then mn (f a b) z else f a b
theorem e_behind (hW : W ≤ 10) (hH : H ≤ 10) (hn : 2 ≤ n) : callF fs gs n 11 [bD W H f, .tup [nm, .int sd, .int sh, .int rm], ptD x y z, ptD x' y' z'] s = .ok (bD W H (behf sd x y z x' y' z' f)) s := by
  obtain ⟨m, rfl, hm⟩ := sc hn
  rw [call_at (f := c_block_behind_stroke) rfl rfl]
  have main : ∀ (T P Q : D) (fi lo la hi z : Int), ∃ o1 o2 o3, exec (callF fs gs m) gs (.for (.tp (.c (.nm 10) (.c (.nm 11) .nil))) (.enm (.var 0)) bBeh) (EB (bD W H f) T P Q fi lo la hi z [] none none none) s = .ok (.nx (EB (bD W H f) T P Q fi lo la hi z ((List.range H).map (rowD W (bhf fi lo la hi z f))) o1 o2 o3)) s := by
    intro T P Q fi lo la hi z
    have key := forF_app (f := stepF (callF fs gs m) gs (.tp (.c (.nm 10) (.c (.nm 11) .nil))) bBeh) (mk := fun i => .tup [.int (i : Nat), rowD W f i]) (E := fun acc (k : Option SV × Option SV × Option SV) => EB (bD W H f) T P Q fi lo la hi z acc k.1 k.2.1 k.2.2)
      (g := fun i => [rowD W (bhf fi lo la hi z f) i]) (s := s) (M := 500) (c := 1) (xs := List.range H) (fun i _ acc k hl => by
        have hz : acc.length < LINE := by show _ < 16777216; omega
        refine ⟨(some (.val (.int (i : Nat))), some (.val (rowD W f i)), some (.val (.bl (decide (lo ≤ i ∧ i ≤ hi))))), ?_⟩
        unfold stepF
        have e : ∀ env, env = EB (bD W H f) T P Q fi lo la hi z acc (some (.val (.int (i : Nat)))) (some (.val (rowD W f i))) (some (.val (.bl (decide (lo ≤ i ∧ i ≤ hi))))) → evF (callF fs gs m) gs (.cp1 (.ite (.bop true (.c (.var 12) (.c (.chn .le .le (.var 4) (.var 13) (.var 6)) .nil))) (.blt .min (.c (.var 14) (.c (.var 8) .nil))) (.var 14)) (.tp (.c (.nm 13) (.c (.nm 14) .nil))) (.enm (.var 11)) .n [13, 14]) env s = .ok ((List.range W).map fun (a : Nat) => D.int (bhf fi lo la hi z f a i)) s := by
          rintro env rfl
          refine cp1_map (xs := List.range W) (mk := fun j => .tup [.int (j : Nat), .int (f j i)]) (g := fun (a : Nat) => D.int (bhf fi lo la hi z f a i)) (by simp [EB, enum_row]) (fun j hj => ⟨_, rfl, ?_⟩) (by simp; show _ ≤ 16777216; omega)
          by_cases c1 : lo ≤ i <;> by_cases c2 : (i : Int) ≤ hi <;> by_cases c3 : fi ≤ j <;> by_cases c4 : (j : Int) ≤ la <;> simp [EB, noOwn, wipeE, c1, c2, c3, c4, bhf]
        have e2 := e _ rfl
        have e7 : D.tup (List.map (fun (a : Nat) => D.int (bhf fi lo la hi z f a i)) (List.range W)) = rowD W (bhf fi lo la hi z f) i := rfl
        by_cases c1 : lo ≤ i <;> by_cases c2 : (i : Int) ≤ hi <;> simp [EB, c1, c2] at e2 <;> simp [bBeh, EB, c1, c2, e2, chg, hz, e7]) (fun i _ => by simp) [] (none, none, none) (by simp; omega)
    obtain ⟨k', e1⟩ := key
    rw [flatMap_rows] at e1
    refine ⟨k'.1, k'.2.1, k'.2.2, ?_⟩
    rw [exec_for]
    have e4 : frzI (EB (bD W H f) T P Q fi lo la hi z [] none none none) (.enm (.var 0)) = EB (bD W H f) T P Q fi lo la hi z [] none none none := rfl
    have e5 : evI (callF fs gs m) gs false (.enm (.var 0)) (EB (bD W H f) T P Q fi lo la hi z [] none none none) s = .ok ((List.range H).map fun i => .tup [.int (i : Nat), rowD W f i]) s := by
      simp [EB, enum_bD]
    rw [e4, e5, ok_bind, e1]
    simp
  obtain ⟨o1, o2, o3, e6⟩ := main (.tup [nm, .int sd, .int sh, .int rm]) (ptD x y z) (ptD x' y' z') (mn x x') (mn y y') (mx x x' + sd - 1) (mx y y' + sd - 1) (mn z z')
  have e0 := e_bounds (n := m) (s := s) (nm := nm) (sd := sd) (sh := .int sh) (rm := .int rm) (x := x) (y := y) (z := z) (x' := x') (y' := y') (z' := z') hm
  simp only [EB, bBeh, ptD] at e6
  have e8 : D.tup ((List.range H).map (rowD W (bhf (mn x x') (mn y y') (mx x x' + sd - 1) (mx y y' + sd - 1) (mn z z') f))) = bD W H (behf sd x y z x' y' z' f) := rfl
  simp only [ptD] at e0
  simp [c_block_behind_stroke, startE, List.replicate, ptD, e0, e6, frzR, e8, borrows, isOwn]
/-! ### the first meeting as an option -/
def oD : Option Int → D
  | none => .non
  | some i => .int i
def fmO (f b e lo hi : Int) : Option Int :=
  if b < e then (if mx (b + 1) (f - hi) ≤ mn e (f + lo) then some (mx (b + 1) (f - hi) - b) else none)
  else (if mx e (f - hi) ≤ mn (b - 1) (f + lo) then some (b - mn (b - 1) (f + lo)) else none)
theorem fmD_o {f b e lo hi : Int} : fmD f b e lo hi = oD (fmO f b e lo hi) := by
  unfold fmD fmO
  split <;> split <;> rfl
def minO : List Int → Option Int
  | [] => none
  | x :: l => some (minI (x :: l))
def pk (ax u v : Int) : Int := if ax = 0 then u else v
theorem idx_pk {ax u v : Int} {l : List D} (h : ax = 0 ∨ ax = 1) : idxD (.tup (.int u :: .int v :: l)) (.int ax) = some (.int (pk ax u v)) := by
  rcases h with rfl | rfl
  · simp [pk]
  · simp [pk]
def cond (ax sd rm lim x y : Int) (f : Int → Int → Int) (a b : Int) : Prop := lim < f a b ∧ pk (1 - ax) x y - rm ≤ pk (1 - ax) a b ∧ pk (1 - ax) a b ≤ pk (1 - ax) x y + sd - 1 + rm
instance {ax sd rm lim x y : Int} {f : Int → Int → Int} {a b : Int} : Decidable (cond ax sd rm lim x y f a b) := inferInstanceAs (Decidable (_ ∧ _ ∧ _))
def sthR (ax sd rm lim x y x' y' : Int) (f : Int → Int → Int) (W : Nat) (b : Nat) : List (Option Int) := (List.range W).flatMap fun (a : Nat) => if cond ax sd rm lim x y f a b then [fmO (pk ax a b) (pk ax x y) (pk ax x' y') rm (sd - 1 + rm)] else []
def sthL (ax sd rm lim x y x' y' : Int) (f : Int → Int → Int) (W H : Nat) : List (Option Int) := (List.range H).flatMap (sthR ax sd rm lim x y x' y' f W)
def ES (B T P Q : D) (rm lim ax sd ac : Int) (L : List D) (o1 o2 o3 o4 o5 : Option SV) : Env :=
  [some (.val B), some (.val T), some (.val P), some (.val Q), some (.val (.int rm)), some (.val (.int lim)), some (.val (.int ax)), some (.val (.int sd)), some (.own L), some (.val (.int ac)), o1, o2, none, o3, o4, o5, none]
def bSth : Sms := (.c (.asg (.nm 15) (.tup (.c (.var 13) (.c (.var 10) .nil)))) (.c (.ite (.bop true (.c (.cmp .gt (.var 14) (.var 5)) (.c (.chn .le .le (.bin .sub (.idx (.var 2) (.var 9)) (.var 4)) (.idx (.var 15) (.var 9)) (.bin .add (.bin .sub (.bin .add (.idx (.var 2) (.var 9)) (.var 7)) (.int 1)) (.var 4))) .nil))) (.c (.app 8 (.call 12 (.c (.idx (.var 15) (.var 6)) (.c (.idx (.var 2) (.var 6)) (.c (.idx (.var 3) (.var 6)) (.c (.tup (.c (.var 4) (.c (.bin .add (.bin .sub (.var 7) (.int 1)) (.var 4)) .nil))) .nil)))))) .nil) .nil) .nil))
theorem sth_inner {ax : Int} (hax : ax = 0 ∨ ax = 1) (hW : W ≤ 10) (hn : 1 ≤ n) {T : D} {lim : Int} {b : Nat} {L : List D} {o3 o4 o5 : Option SV} (hL : L.length ≤ 1000) :
    ∃ o3' o4' o5', exec (callF fs gs n) gs (.for (.tp (.c (.nm 13) (.c (.nm 14) .nil))) (.enm (.var 11)) bSth) (ES (bD W H f) T (ptD x y z) (ptD x' y' z') rm lim ax sd (1 - ax) L (some (.val (.int (b : Nat)))) (some (.val (rowD W f b))) o3 o4 o5) s
      = .ok (.nx (ES (bD W H f) T (ptD x y z) (ptD x' y' z') rm lim ax sd (1 - ax) (L ++ (sthR ax sd rm lim x y x' y' f W b).map oD) (some (.val (.int (b : Nat)))) (some (.val (rowD W f b))) o3' o4' o5')) s := by
  rw [exec_for]
  have e4 : ∀ env, frzI env (.enm (.var 11)) = frzAt env 11 := fun _ => rfl
  have e5 : evI (callF fs gs n) gs false (.enm (.var 11)) (ES (bD W H f) T (ptD x y z) (ptD x' y' z') rm lim ax sd (1 - ax) L (some (.val (.int (b : Nat)))) (some (.val (rowD W f b))) o3 o4 o5) s = .ok ((List.range W).map fun (a : Nat) => .tup [.int (a : Nat), .int (f a b)]) s := by
    simp [ES, enum_row]
  have e6 : frzAt (ES (bD W H f) T (ptD x y z) (ptD x' y' z') rm lim ax sd (1 - ax) L (some (.val (.int (b : Nat)))) (some (.val (rowD W f b))) o3 o4 o5) 11 = ES (bD W H f) T (ptD x y z) (ptD x' y' z') rm lim ax sd (1 - ax) L (some (.val (.int (b : Nat)))) (some (.val (rowD W f b))) o3 o4 o5 := rfl
  rw [e4, e6, e5, ok_bind]
  have key := forF_app (f := stepF (callF fs gs n) gs (.tp (.c (.nm 13) (.c (.nm 14) .nil))) bSth) (mk := fun (a : Nat) => .tup [.int (a : Nat), .int (f a b)]) (E := fun acc (k : Option SV × Option SV × Option SV) => ES (bD W H f) T (ptD x y z) (ptD x' y' z') rm lim ax sd (1 - ax) acc (some (.val (.int (b : Nat)))) (some (.val (rowD W f b))) k.1 k.2.1 k.2.2)
    (g := fun (a : Nat) => (if cond ax sd rm lim x y f a b then [fmO (pk ax a b) (pk ax x y) (pk ax x' y') rm (sd - 1 + rm)] else []).map oD) (s := s) (M := 2000) (c := 1) (xs := List.range W) (fun a _ acc k hl => by
      have hz : acc.length < LINE := by show _ < 16777216; omega
      have hac : 1 - ax = 0 ∨ 1 - ax = 1 := by omega
      refine ⟨(some (.val (.int (a : Nat))), some (.val (.int (f a b))), some (.val (.tup [.int (a : Nat), .int (b : Nat)]))), ?_⟩
      unfold stepF
      have e1 := fun (fi bb ee : Int) => e_first (n := n) (s := s) (f := fi) (b := bb) (e := ee) (lo := rm) (hi := sd - 1 + rm) hn
      by_cases c1 : lim < f a b <;> by_cases c2 : pk (1 - ax) x y - rm ≤ pk (1 - ax) a b <;> by_cases c3 : pk (1 - ax) a b ≤ pk (1 - ax) x y + sd - 1 + rm <;>
        simp [bSth, ES, ptD, idx_pk hax, idx_pk hac, c1, c2, c3, cond, e1, chg, hz, borrows, isOwn, fmD_o]) (fun a _ => by split <;> simp) L (o3, o4, o5) (by simp; omega)
  obtain ⟨k', e1⟩ := key
  refine ⟨k'.1, k'.2.1, k'.2.2, ?_⟩
  rw [e1]
  unfold sthR
  rw [List.map_flatMap]
end
end PV.K43
set_option maxRecDepth 100000
set_option maxHeartbeats 4000000
namespace PV.K43
open PySem PV
section
variable {n : Nat} {s : Sto} {W H : Nat} {f : Int → Int → Int} {nm : D} {sd sh rm x y z x' y' z' : Int}
theorem sthR_le {ax lim : Int} {b : Nat} : ((sthR ax sd rm lim x y x' y' f W b).map oD).length ≤ W * 1 := by
  rw [List.length_map]
  refine Nat.le_trans (flatMap_le (c := 1) fun a _ => by split <;> simp) ?_
  simp
theorem told_flat {L : List (Option Int)} : L.flatMap (fun o => match o with
    | none => []
    | some i => [D.int i]) = (L.filterMap id).map D.int := by
  induction L with
  | nil => rfl
  | cons o L ih => cases o <;> simp [ih]
theorem fm_len {L : List (Option Int)} : (L.filterMap id).length ≤ L.length := List.length_filterMap_le _ _
/-- the steps that are not None -/
theorem e_told {m : Nat} {env : Env} {j k : Nat} {L : List (Option Int)} (h1 : evI (callF fs gs m) gs true (.seq (.var j)) env s = .ok (L.map oD) s) (hk : k < env.length) (hz : L.length ≤ 2000) :
    evF (callF fs gs m) gs (.cp1 (.var k) (.nm k) (.seq (.var j)) (.s (.cmp .isn (.var k) .non)) [k]) env s = .ok ((L.filterMap id).map D.int) s := by
  rw [← told_flat]
  refine cp1_pure (xs := L) (mk := oD) h1 (fun o ho => ?_) (by rw [told_flat, List.length_map]; have := fm_len (L := L); show _ ≤ 16777216; omega)
  have hl : ∀ d, ((wipeE (noOwn env) [k]).set k (some (SV.val d)))[k]? = some (some (.val d)) := fun d => List.getElem?_set_self (by simpa [wipeE, noOwn] using hk)
  cases o with
  | none => simp [turn1, hl, oD, cmpD, isD, isNonD]
  | some i => simp [turn1, hl, oD, cmpD, isD, isNonD]
theorem min_told {L : List Int} : (truthS s (.lst (L.map D.int))).bind (fun t s => if t = true then lift (bltD .min [.lst (L.map D.int)]) s else .ok .non s) = .ok (oD (minO L)) s := by
  cases L with
  | nil => rfl
  | cons i L =>
    have := min_list (x := i) (l := L)
    simp only [List.map_cons, truthS_lst, ok_bind, List.isEmpty_cons, Bool.not_false, if_true, this, lift_some]
    rfl
def bOut : Sms := (.c (.for (.tp (.c (.nm 13) (.c (.nm 14) .nil))) (.enm (.var 11)) bSth) .nil)
theorem e_sth {ax lim : Int} (hax : ax = 0 ∨ ax = 1) (he : axisI x y z x' y' z' = ax) (hd : ¬ (x = x' ∧ y = y' ∧ z = z')) (hW : W ≤ 10) (hH : H ≤ 10) (hn : 2 ≤ n) : callF fs gs n 13 [bD W H f, .tup [nm, .int sd, .int sh, .int rm0], ptD x y z, ptD x' y' z', .int rm, .int lim] s = .ok (oD (minO ((sthL ax sd rm lim x y x' y' f W H).filterMap id))) s := by
  obtain ⟨m, rfl, hm⟩ := sc hn
  rw [call_at (f := c_steps_to_height) rfl rfl]
  have main : ∀ T : D, ∃ o1 o2 o3 o4 o5, exec (callF fs gs m) gs (.for (.tp (.c (.nm 10) (.c (.nm 11) .nil))) (.enm (.var 0)) bOut) (ES (bD W H f) T (ptD x y z) (ptD x' y' z') rm lim ax sd (1 - ax) [] none none none none none) s
      = .ok (.nx (ES (bD W H f) T (ptD x y z) (ptD x' y' z') rm lim ax sd (1 - ax) ((sthL ax sd rm lim x y x' y' f W H).map oD) o1 o2 o3 o4 o5)) s := by
    intro T
    have key := forF_app (f := stepF (callF fs gs m) gs (.tp (.c (.nm 10) (.c (.nm 11) .nil))) bOut) (mk := fun i => .tup [.int (i : Nat), rowD W f i]) (E := fun acc (k : Option SV × Option SV × Option SV × Option SV × Option SV) => ES (bD W H f) T (ptD x y z) (ptD x' y' z') rm lim ax sd (1 - ax) acc k.1 k.2.1 k.2.2.1 k.2.2.2.1 k.2.2.2.2)
      (g := fun i => (sthR ax sd rm lim x y x' y' f W i).map oD) (s := s) (M := 500) (c := W * 1) (xs := List.range H) (fun i _ acc k hl => by
        obtain ⟨o3, o4, o5, e1⟩ := sth_inner (n := m) (s := s) (W := W) (H := H) (f := f) (x := x) (y := y) (z := z) (x' := x') (y' := y') (z' := z') (sd := sd) (rm := rm) hax hW (by omega) (T := T) (lim := lim) (b := i) (L := acc) (o3 := k.2.2.1) (o4 := k.2.2.2.1) (o5 := k.2.2.2.2) (by omega)
        refine ⟨(some (.val (.int (i : Nat))), some (.val (rowD W f i)), o3, o4, o5), ?_⟩
        unfold stepF
        have e3 : bindT (.tp (.c (.nm 10) (.c (.nm 11) .nil))) (.tup [.int (i : Nat), rowD W f i]) (ES (bD W H f) T (ptD x y z) (ptD x' y' z') rm lim ax sd (1 - ax) acc k.1 k.2.1 k.2.2.1 k.2.2.2.1 k.2.2.2.2) = some (ES (bD W H f) T (ptD x y z) (ptD x' y' z') rm lim ax sd (1 - ax) acc (some (.val (.int (i : Nat)))) (some (.val (rowD W f i))) k.2.2.1 k.2.2.2.1 k.2.2.2.2) := rfl
        simp only [e3, bOut, execs_c, e1, nextF_nx, execs_nil]) (fun i _ => sthR_le) [] (none, none, none, none, none) (by
          have := Nat.mul_le_mul hH (Nat.mul_le_mul_right 1 hW)
          simp only [List.length_nil, List.length_range]; omega)
    obtain ⟨k', e1⟩ := key
    refine ⟨k'.1, k'.2.1, k'.2.2.1, k'.2.2.2.1, k'.2.2.2.2, ?_⟩
    rw [exec_for]
    have e4 : frzI (ES (bD W H f) T (ptD x y z) (ptD x' y' z') rm lim ax sd (1 - ax) [] none none none none none) (.enm (.var 0)) = ES (bD W H f) T (ptD x y z) (ptD x' y' z') rm lim ax sd (1 - ax) [] none none none none none := rfl
    have e5 : evI (callF fs gs m) gs false (.enm (.var 0)) (ES (bD W H f) T (ptD x y z) (ptD x' y' z') rm lim ax sd (1 - ax) [] none none none none none) s = .ok ((List.range H).map fun i => .tup [.int (i : Nat), rowD W f i]) s := by
      simp [ES, enum_bD]
    rw [e4, e5, ok_bind, e1]
    unfold sthL
    rw [List.map_flatMap]
    simp
  obtain ⟨o1, o2, o3, o4, o5, e6⟩ := main (.tup [nm, .int sd, .int sh, .int rm0])
  have hlen : (sthL ax sd rm lim x y x' y' f W H).length ≤ 100 := by
    refine Nat.le_trans (flatMap_le (c := W * 1) fun b _ => by have := sthR_le (sd := sd) (rm := rm) (x := x) (y := y) (x' := x') (y' := y') (f := f) (W := W) (ax := ax) (lim := lim) (b := b); rwa [List.length_map] at this) ?_
    have := Nat.mul_le_mul hH (Nat.mul_le_mul_right 1 hW)
    rw [List.length_range]; omega
  have e7 := e_told (s := s) (m := m) (j := 8) (k := 16) (env := ES (bD W H f) (.tup [nm, .int sd, .int sh, .int rm0]) (ptD x y z) (ptD x' y' z') rm lim ax sd (1 - ax) ((sthL ax sd rm lim x y x' y' f W H).map oD) o1 o2 o3 o4 o5) (L := sthL ax sd rm lim x y x' y' f W H) (by simp [ES, items?]) (by simp [ES]) (by omega)
  have e0 := e_axis (n := m) (s := s) (x := x) (y := y) (z := z) (x' := x') (y' := y') (z' := z') (by omega) hd
  rw [he] at e0
  simp only [ES, bOut, bSth] at e6 e7
  have e8 := min_told (s := s) (L := (sthL ax sd rm lim x y x' y' f W H).filterMap id)
  simp [c_steps_to_height, startE, List.replicate, e0, e6, e7, frzR, borrows, isOwn]
  simp at e8
  rw [e8]
  simp
/-! ### the strike -/
def kindD (k : Bool) : D := if k = true then .str "fast" else .str "cut"
theorem kind_eq {k : Bool} : cmpD .eq (kindD k) (.str "fast") = some k := by cases k <;> decide +kernel
@[simp] theorem deref_kind {k : Bool} : deref s (kindD k) = kindD k := by cases k <;> rfl
@[simp] theorem gs_0 : gs[0]? = some (.str "fast") := id rfl
def lvL (k : Bool) (ax sd sh rm x y z x' y' : Int) (f : Int → Int → Int) (W H : Nat) : List (Option Int) :=
  minO ((sthL ax sd rm (z + sh) x y x' y' f W H).filterMap id) :: if k = true then [minO ((sthL ax sd 0 z x y x' y' f W H).filterMap id)] else []
def lvO (k : Bool) (ax sd sh rm x y z x' y' : Int) (f : Int → Int → Int) (W H : Nat) : Option Int := (minO ((lvL k ax sd sh rm x y z x' y' f W H).filterMap id)).map (· - 1)
theorem e_level {k : Bool} {ax : Int} (hax : ax = 0 ∨ ax = 1) (he : axisI x y z x' y' z' = ax) (hd : ¬ (x = x' ∧ y = y' ∧ z = z')) (hW : W ≤ 10) (hH : H ≤ 10) (hn : 3 ≤ n) : callF fs gs n 14 [bD W H f, .tup [nm, .int sd, .int sh, .int rm], kindD k, ptD x y z, ptD x' y' z'] s = .ok (oD (lvO k ax sd sh rm x y z x' y' f W H)) s := by
  obtain ⟨m, rfl, hm⟩ := sc hn
  rw [call_at (f := c_level_strike) rfl rfl]
  have e1 := fun (rm' lim : Int) => e_sth (n := m) (s := s) (f := f) (nm := nm) (sd := sd) (sh := sh) (rm0 := rm) (rm := rm') (lim := lim) hax he hd hW hH hm
  have e7 := e_told (s := s) (m := m) (j := 5) (k := 6) (env := [some (.val (bD W H f)), some (.val (.tup [nm, .int sd, .int sh, .int rm])), some (.val (kindD k)), some (.val (ptD x y z)), some (.val (ptD x' y' z')), some (.own ((lvL k ax sd sh rm x y z x' y' f W H).map oD)), none]) (L := lvL k ax sd sh rm x y z x' y' f W H) (by simp [items?]) (by simp) (by unfold lvL; split <;> simp)
  generalize hL : (lvL k ax sd sh rm x y z x' y' f W H) = L at e7
  have hO : lvO k ax sd sh rm x y z x' y' f W H = (minO (L.filterMap id)).map (· - 1) := by rw [← hL]; rfl
  rw [hO]
  generalize hM : L.filterMap id = M at e7 ⊢
  unfold lvL at hL
  have hp : idxD (ptD x y z) (.int 2) = some (.int z) := by simp [ptD]
  have hd1 : ∀ {a b c : Int}, deref s (ptD a b c) = ptD a b c := rfl
  have h2 : 1 < LINE := by decide
  have fin : ∀ g : Env → Sto → Out Flow, retOf (nextF ((((truthS s (.lst (M.map D.int))).bind (fun t s => if t = true then (lift (bltD .min [.lst (M.map D.int)]) s).bind (fun x s => lift (binD .sub (deref s x) (.int 1)) s) else .ok .non s)).bind fun d s => .ok (.ret d) s)) g) = .ok (oD ((minO M).map (· - 1))) s := by
    intro g
    cases M with
    | nil => rfl
    | cons i L =>
      have := min_list (x := i) (l := L)
      simp only [List.map_cons, truthS_lst, ok_bind, List.isEmpty_cons, Bool.not_false, if_true, this, lift_some]
      rfl
  have fin1 := fin (PV.execs (callF fs gs m) gs .nil)
  simp at fin1
  cases k with
  | true =>
    simp only [if_true] at hL
    subst hL
    simp only [List.map_cons, List.map_nil] at e7
    simp [c_level_strike, startE, List.replicate, e1, hp, hd1, borrows, isOwn, kind_eq, chg, h2, frzR, e7]
    exact fin1
  | false =>
    simp only [Bool.false_eq_true, if_false] at hL
    subst hL
    simp only [List.map_cons, List.map_nil] at e7
    simp [c_level_strike, startE, List.replicate, e1, hp, hd1, borrows, isOwn, kind_eq, chg, h2, frzR, e7]
    exact fin1
end
end PV.K43
set_option maxRecDepth 100000
set_option maxHeartbeats 4000000
namespace PV
@[simp] theorem bin_addT {a b : List D} : binD .add (.tup a) (.tup b) = if a.length + b.length ≤ LINE then some (.tup (a ++ b)) else none := id rfl
@[simp] theorem bin_addL {a b : List D} : binD .add (.lst a) (.lst b) = if a.length + b.length ≤ LINE then some (.lst (a ++ b)) else none := id rfl
end PV
namespace PV.K43
open PySem PV
section
variable {n : Nat} {s : Sto} {W H : Nat} {f : Int → Int → Int} {nm : D} {sd sh rm x y z x' y' z' : Int}
def upM (k : Bool) (sd sh rm x y : Int) (f : Int → Int → Int) (W H : Nat) : Int := if k = true then mx (gr f (abF sd rm x y W H) - sh) (gr f (benF sd x y)) else gr f (abF sd rm x y W H) - sh
def upO (k : Bool) (sd sh rm x y z z' : Int) (f : Int → Int → Int) (W H : Nat) : Option Int := if z' < upM k sd sh rm x y f W H then some (z - upM k sd sh rm x y f W H) else none
section
variable (hsd : 0 ≤ sd ∧ sd ≤ 3) (hrm : 0 ≤ rm ∧ rm ≤ 1) (hx : 0 ≤ x ∧ x + sd ≤ W) (hy : 0 ≤ y ∧ y + sd ≤ H) (hW : 0 < W ∧ W ≤ 10) (hH : 0 < H ∧ H ≤ 10)
include hsd hrm hx hy hW hH in
theorem e_upright {k : Bool} (hn : 2 ≤ n) : callF fs gs n 15 [bD W H f, .tup [nm, .int sd, .int sh, .int rm], kindD k, ptD x y z, ptD x' y' z'] s = .ok (oD (upO k sd sh rm x y z z' f W H)) s := by
  obtain ⟨m, rfl, hm⟩ := sc hn
  rw [call_at (f := c_upright_strike) rfl rfl]
  have e0 := e_size (n := m) (s := s) (W := W) (H := H) (f := f) hm hH.1
  have e1 := e_ben (n := m) (s := s) (nm := nm) (sh := .int sh) (rm := .int rm) (sd := sd) (x := x) (y := y) hm hsd (by omega) (by omega)
  have e3 := e_about (n := m) (s := s) (W := W) (H := H) (nm := nm) (sh := .int sh) hsd hrm (x := x) (y := y) (by omega) (by omega) hW.2 hH.2 hm
  have l1 := ben_len (x := x) (y := y) hsd
  have l2 := ab_len (sd := sd) (rm := rm) (x := x) (y := y) hW hH
  have e2 := e_great (n := m) (s := s) (W := W) (H := H) (f := f) (L := benF sd x y) hm (ben_in hsd hx hy hW hH) (by omega)
  have e4 := e_great (n := m) (s := s) (W := W) (H := H) (f := f) (L := abF sd rm x y W H) hm ab_in (by omega)
  unfold upO upM
  cases k with
  | true =>
    by_cases c : z' < mx (gr f (abF sd rm x y W H) - sh) (gr f (benF sd x y)) <;>
      simp [c_upright_strike, startE, frzR, List.replicate, ptD, e0, e1, e2, e3, e4, borrows, isOwn, kind_eq, c, oD]
  | false =>
    by_cases c : z' < gr f (abF sd rm x y W H) - sh <;>
      simp [c_upright_strike, startE, frzR, List.replicate, ptD, e0, e1, e2, e3, e4, borrows, isOwn, kind_eq, c, oD]
include hsd hrm hx hy hW hH in
theorem e_strike {k : Bool} (hd : ¬ (x = x' ∧ y = y' ∧ z = z')) (hn : 4 ≤ n) : callF fs gs n 16 [bD W H f, .tup [nm, .int sd, .int sh, .int rm], kindD k, ptD x y z, ptD x' y' z'] s =
    .ok (oD (if axisI x y z x' y' z' < 2 then lvO k (axisI x y z x' y' z') sd sh rm x y z x' y' f W H else upO k sd sh rm x y z z' f W H)) s := by
  obtain ⟨m, rfl, hm⟩ := sc hn
  rw [call_at (f := c_stroke_strike) rfl rfl]
  have e0 := e_axis (n := m) (s := s) (x := x) (y := y) (z := z) (x' := x') (y' := y') (z' := z') (by omega) hd
  have e2 := e_upright (n := m) (s := s) (f := f) (nm := nm) (sh := sh) (z := z) (x' := x') (y' := y') (z' := z') hsd hrm hx hy hW hH (k := k) (by omega)
  have hd1 : ∀ {a b c : Int}, deref s (ptD a b c) = ptD a b c := rfl
  by_cases c : axisI x y z x' y' z' < 2
  · have hax : axisI x y z x' y' z' = 0 ∨ axisI x y z x' y' z' = 1 := by
      unfold axisI at c ⊢
      by_cases h : x = x' <;> by_cases h2 : y = y' <;> simp [h, h2] at c ⊢
    have e1 := e_level (n := m) (s := s) (f := f) (nm := nm) (sd := sd) (sh := sh) (rm := rm) hax rfl hd hW.2 hH.2 (k := k) hm
    simp [c_stroke_strike, startE, frzR, List.replicate, e0, e1, borrows, isOwn, c]
  · simp [c_stroke_strike, startE, frzR, List.replicate, e0, e2, borrows, isOwn, c]
end
/-! ### strokes from place to place -/
def stD (p q : D) : D := .tup [p, q]
def btw (x y z x' y' z' : Int) : List D := (if x = x' then [] else [stD (ptD x y z) (ptD x' y z)]) ++ ((if y = y' then [] else [stD (ptD x' y z) (ptD x' y' z)]) ++ (if z = z' then [] else [stD (ptD x' y' z) (ptD x' y' z')]))
theorem e_between (hn : 1 ≤ n) : callF fs gs n 7 [ptD x y z, ptD x' y' z'] s = .ok (.lst (btw x y z x' y' z')) s := by
  obtain ⟨m, rfl, hm⟩ := sc hn
  rw [call_at (f := c_strokes_between) rfl rfl]
  unfold btw stD
  by_cases c1 : x = x' <;> by_cases c2 : y = y' <;> by_cases c3 : z = z' <;>
    simp [c_strokes_between, startE, frzR, frzAt, frzI, frzE, List.replicate, ptD, exec_for, items?, forF_cons, forF_nil, stepF, LINE, c1, c2, c3, Ne.symm, eq_comm, chg]
def absI (a : Int) : Int := if a < 0 then -a else a
theorem e_steps (hn : 1 ≤ n) : callF fs gs n 8 [ptD x y z, ptD x' y' z'] s = .ok (.int (absI (x - x') + (absI (y - y') + absI (z - z')))) s := by
  obtain ⟨m, rfl, hm⟩ := sc hn
  rw [call_at (f := c_stroke_steps) rfl rfl]
  simp [c_stroke_steps, startE, frzR, List.replicate, ptD, evF_cp1', zip?, turn1, noOwn, wipeE, LINE, bltD, fSum, ints?, absI, fAbs]
end
end PV.K43
set_option maxRecDepth 100000
set_option maxHeartbeats 4000000
namespace PV
open PySem
@[simp] theorem bin_mul {i j : Int} : binD .mul (.int i) (.int j) = if (-18446744073709551616 < i ∧ i < 18446744073709551616) ∨ (-18446744073709551616 < j ∧ j < 18446744073709551616) then some (.int (i * j)) else none := id rfl
@[simp] theorem bin_mod {i j : Int} : binD .mod (.int i) (.int j) = if 0 < j then some (.int (i % j)) else none := id rfl
@[simp] theorem bin_div {i j : Int} : binD .div (.int i) (.int j) = if 0 < j ∧ j < 1073741824 then some (.int (i / j)) else none := id rfl
@[simp] theorem deref_loc {n : Nat} {s : Sto} : deref s (.loc n) = match s[n]? with
  | some (.lst ds) => .lst ds
  | none => .loc n := rfl
theorem ev_popL {cf : Nat → List D → Sto → Out D} {gs : List D} {o : Bool} {env : Env} {s : Sto} {i n : Nat} {e : Ex} {k : Int} {s' : Sto} {ds : List D} {j : Nat} {d : D} (h1 : env[i]? = some (some (.val (.loc n)))) (h2 : ev cf gs true e env s = .ok (.int k) s') (h3 : s'[n]? = some (.lst ds))
    (hk : -9223372036854775808 ≤ k ∧ k < 9223372036854775808) (h4 : L2.ixN ds.length k = some j) (h5 : ds[j]? = some d) : ev cf gs o (.popL i (.s e)) env s = .ok d (s'.set n (.lst (ds.eraseIdx j))) := by
  conv => lhs; unfold ev
  simp only [h1, evO_s, h2, ok_bind, h3, if_pos hk, h4, h5]
@[simp] theorem isi_int {i : Int} {t : Ty} : isiD (.int i) t = some (t == .int) := id rfl
@[simp] theorem isi_non {t : Ty} : isiD .non t = some false := id rfl
@[simp] theorem isi_tup {ds : List D} {t : Ty} : isiD (.tup ds) t = some (t == .tup) := id rfl
@[simp] theorem isi_lst {ds : List D} {t : Ty} : isiD (.lst ds) t = some (t == .lst) := id rfl
@[simp] theorem is_non {x : D} : cmpD .is x .non = some (isNonD x) := by show isD x .non = _; cases x <;> rfl
@[simp] theorem isn_non {x : D} : cmpD .isn x .non = some (!isNonD x) := by show (isD x .non).map (!·) = _; cases x <;> rfl
@[simp] theorem isNon_non : isNonD .non = true := id rfl
@[simp] theorem isNon_int {i : Int} : isNonD (.int i) = false := id rfl
@[simp] theorem isNon_tup {ds : List D} : isNonD (.tup ds) = false := id rfl
theorem all_true {α : Type} {l : List α} : bltD .all [.lst (l.map fun _ => D.bl true)] = some (.bl true) := by
  have : bools? (l.map fun _ => D.bl true) = some (l.map fun _ => true) := by
    induction l with
    | nil => rfl
    | cons x l ih => show (bools? (l.map fun _ => D.bl true)).map (true :: ·) = _; rw [ih]; rfl
  show (bools? (l.map fun _ => D.bl true)).map (fun l => D.bl (l.all id)) = _
  rw [this]
  simp
theorem idx_tupI {ds : List D} {i : Int} {d : D} (h : 0 ≤ i) (e : ds[i.toNat]? = some d) : idxD (.tup ds) (.int i) = some d := by
  have q : i = ((i.toNat : Nat) : Int) := by omega
  rw [q]; exact idx_tup e
theorem idx_lstI {ds : List D} {i : Int} {d : D} (h : 0 ≤ i) (e : ds[i.toNat]? = some d) : idxD (.lst ds) (.int i) = some d := idx_tupI h e
/-- what the laws' own comparison is asked -/
inductive Sim : Nat → D → Prop
  | non {k : Nat} : Sim k .non
  | int {k : Nat} {i : Int} : Sim k (.int i)
  | tup {k : Nat} {ds : List D} : ds.length ≤ 1000 → (∀ d ∈ ds, Sim k d) → Sim (k + 1) (.tup ds)
  | lst {k : Nat} {ds : List D} : ds.length ≤ 1000 → (∀ d ∈ ds, Sim k d) → Sim (k + 1) (.lst ds)
end PV
namespace PV.K43
open PySem PV
section
variable {n : Nat} {s : Sto} {W H : Nat} {f : Int → Int → Int} {nm : D} {sd sh rm x y z x' y' z' : Int}
/-- the box stands: the script's cells, the value, the seed -/
def Bx (s : Sto) : Prop := ∃ (cs : List Int) (v t : Int), s = [.lst (cs.map D.int), .lst [.loc 0, .int v, .int t]]
theorem e_load (hb : Bx s) (hn : 1 ≤ n) : ∃ v s', callF fs gs n 19 [.loc 1] s = .ok (.int v) s' ∧ Bx s' := by
  obtain ⟨m, rfl, hm⟩ := sc hn
  obtain ⟨cs, v, t, rfl⟩ := hb
  rw [call_at (f := c__law_load) rfl rfl]
  cases cs with
  | nil =>
    refine ⟨_, _, by simp [c__law_load, startE, List.replicate, L2.ixN, chg, frzR]; first | exact ⟨rfl, rfl⟩ | rfl, [], v, _, rfl⟩
  | cons c cs =>
    have ep : ∀ (o : Bool) (env : Env), env[1]? = some (some (.val (.loc 0))) → ev (callF fs gs m) gs o (.popL 1 (.s (.int 0))) env [.lst (D.int c :: cs.map D.int), .lst [.loc 0, .int v, .int t]] = .ok (.int c) [.lst (cs.map D.int), .lst [.loc 0, .int v, .int t]] := fun o env h =>
      ev_popL (n := 0) (k := 0) (j := 0) (ds := D.int c :: cs.map D.int) h ev_int rfl (by decide) (by simp [L2.ixN]) rfl
    by_cases c1 : 0 ≤ c
    · by_cases c2 : 1000000000000000000 ≤ 2 * c
      · refine ⟨_, _, by simp [c__law_load, startE, List.replicate, L2.ixN, chg, frzR, ep, c1, c2]; first | exact ⟨rfl, rfl⟩ | rfl, cs, v, t, rfl⟩
      · refine ⟨_, _, by simp [c__law_load, startE, List.replicate, L2.ixN, chg, frzR, ep, c1, c2]; first | exact ⟨rfl, rfl⟩ | rfl, cs, v, _, rfl⟩
    · by_cases c2 : 1000000000000000000 ≤ -2 * c - 1
      · refine ⟨_, _, by simp [c__law_load, startE, List.replicate, L2.ixN, chg, frzR, ep, c1, c2]; first | exact ⟨rfl, rfl⟩ | rfl, cs, v, t, rfl⟩
      · refine ⟨_, _, by simp [c__law_load, startE, List.replicate, L2.ixN, chg, frzR, ep, c1, c2]; first | exact ⟨rfl, rfl⟩ | rfl, cs, v, _, rfl⟩
theorem e_draw {many : Int} (hb : Bx s) (h : 0 < many ∧ many < 1073741824) (hn : 2 ≤ n) : ∃ d s', callF fs gs n 20 [.loc 1, .int many] s = .ok (.int d) s' ∧ (0 ≤ d ∧ d < many) ∧ Bx s' := by
  obtain ⟨m, rfl, hm⟩ := sc hn
  obtain ⟨w, s1, e1, h1⟩ := e_load hb hm
  obtain ⟨cs, v, t, rfl⟩ := hb
  obtain ⟨cs1, v1, t1, rfl⟩ := h1
  rw [call_at (f := c__law_draw) rfl rfl]
  by_cases c : v < many
  · refine ⟨w % many, _, by simp [c__law_draw, startE, List.replicate, L2.ixN, chg, frzR, c, e1, borrows, isOwn, h.1, h.2]; rfl, ⟨Int.emod_nonneg _ (by omega), Int.emod_lt_of_pos _ h.1⟩, cs1, _, t1, rfl⟩
  · refine ⟨v % many, _, by simp [c__law_draw, startE, List.replicate, L2.ixN, chg, frzR, c, e1, borrows, isOwn, h.1, h.2]; rfl, ⟨Int.emod_nonneg _ (by omega), Int.emod_lt_of_pos _ h.1⟩, cs, _, t, rfl⟩
theorem e_box {ns : List Int} (hn : 1 ≤ n) : ∃ s', callF fs gs n 18 [.rol (ns.map D.int)] [] = .ok (.loc 1) s' ∧ Bx s' := by
  obtain ⟨m, rfl, hm⟩ := sc hn
  rw [call_at (f := c__law_box) rfl rfl]
  have e : slcD (.rol (ns.map D.int)) none (some 63) = some (.lst ((cut ns none (some 63)).map D.int)) := by
    show some (D.lst (cut (ns.map D.int) none (some 63))) = _
    unfold cut
    rw [List.length_map, List.map_take, List.map_drop]
  exact ⟨[.lst ((cut ns none (some 63)).map D.int), .lst [.loc 0, .int 0, .int (4711 + ns.length)]], by simp [c__law_box, startE, List.replicate, frzR, e], cut ns none (some 63), 0, 4711 + ns.length, rfl⟩
set_option maxRecDepth 4000 in
theorem e_same : ∀ {k : Nat} {d : D}, Sim k d → ∀ {n : Nat} {s : Sto}, k + 1 ≤ n → callF fs gs n 21 [d, d] s = .ok (.bl true) s := by
  have rep : ∀ {k : Nat} {ds : List D} {d : D} (hd : d = .tup ds ∨ d = .lst ds) (hl : ds.length ≤ 1000) (ih : ∀ d ∈ ds, ∀ {n : Nat} {s : Sto}, k + 1 ≤ n → callF fs gs n 21 [d, d] s = .ok (.bl true) s) {n : Nat} {s : Sto}, k + 2 ≤ n → callF fs gs n 21 [d, d] s = .ok (.bl true) s := by
    intro k ds d hd hl ih n s hn
    obtain ⟨m, rfl, hm⟩ := sc hn
    rw [call_at (f := c__law_same) rfl rfl]
    have key : ∀ env, env = [some (SV.val d), some (.val d), none] → evF (callF fs gs m) gs (.cp1 (.call 21 (.c (.idx (.var 0) (.var 2)) (.c (.idx (.var 1) (.var 2)) .nil))) (.nm 2) (.rg1 (.blt .len (.c (.var 0) .nil))) .n [2]) env s = .ok ((ir 0 ds.length).map fun _ => D.bl true) s := by
      rintro env rfl
      refine cp1_map (xs := ir 0 ds.length) (mk := D.int) (g := fun _ => D.bl true) ?_ (fun i hi => ⟨_, rfl, ?_⟩) (by rw [ir_len]; show _ ≤ 16777216; omega)
      · rcases hd with rfl | rfl <;> simp [rng1_ir (j := ds.length) (by omega)]
      · rw [mem_ir] at hi
        have h1 : i.toNat < ds.length := by omega
        have h2 : ds[i.toNat]? = some ds[i.toNat] := List.getElem?_eq_getElem h1
        have h3 := ih _ (List.getElem_mem h1) (n := m) (s := s) (by omega)
        rcases hd with rfl | rfl
        · simp [noOwn, wipeE, idx_tupI hi.1 h2, h3, borrows, isOwn]
        · simp [noOwn, wipeE, idx_lstI hi.1 h2, h3, borrows, isOwn]
    have e1 := key _ rfl
    have e2 := all_true (l := ir 0 ds.length)
    generalize (ir 0 ds.length).map (fun _ => D.bl true) = M at e1 e2
    rcases hd with rfl | rfl
    · simp [c__law_same, startE, frzR, e1, e2, List.replicate]
    · simp [c__law_same, startE, frzR, e1, e2, List.replicate]
  intro k d h
  induction h with
  | non => intro n s hn; obtain ⟨m, rfl, hm⟩ := sc (k := 0) (by omega : 0 + 1 ≤ n); rw [call_at (f := c__law_same) rfl rfl]; simp [c__law_same, startE, List.replicate, frzR]
  | int => intro n s hn; obtain ⟨m, rfl, hm⟩ := sc (k := 0) (by omega : 0 + 1 ≤ n); rw [call_at (f := c__law_same) rfl rfl]; simp [c__law_same, startE, List.replicate, frzR]
  | tup hl _ ih => exact fun {n s} hn => rep (.inl rfl) hl (fun d hd {n s} h => ih d hd h) hn
  | lst hl _ ih => exact fun {n s} hn => rep (.inr rfl) hl (fun d hd {n s} h => ih d hd h) hn
end
end PV.K43
set_option maxRecDepth 100000
set_option maxHeartbeats 4000000
namespace PV
open PySem
@[simp] theorem slc_03 {a b c : D} : slcD (.tup [a, b, c]) none (some 3) = some (.tup [a, b, c]) := id rfl
theorem flatF_gen {α β : Type} {f : D → Sto → Out (List D)} {mk : α → D} {dec : β → D} {I : Sto → Prop} {P : β → Prop} : ∀ {xs : List α} {s : Sto}, I s → (∀ x ∈ xs, ∀ s, I s → ∃ v s', f (mk x) s = .ok [dec v] s' ∧ I s' ∧ P v) →
    ∃ (l : List β) (s' : Sto), flatF f (xs.map mk) s = .ok (l.map dec) s' ∧ I s' ∧ l.length = xs.length ∧ ∀ v ∈ l, P v
  | [], s, hI, _ => ⟨[], s, rfl, hI, rfl, fun v h => by cases h⟩
  | x :: xs, s, hI, h => by
    obtain ⟨v, s1, e1, I1, p1⟩ := h x List.mem_cons_self s hI
    obtain ⟨l, s2, e2, I2, hl, p2⟩ := flatF_gen (f := f) (mk := mk) (dec := dec) (P := P) (xs := xs) I1 fun y hy => h y (List.mem_cons_of_mem _ hy)
    refine ⟨v :: l, s2, ?_, I2, by simp [hl], fun w hw => ?_⟩
    · rw [List.map_cons, flatF_cons, e1, ok_bind, e2, ok_bind]; rfl
    · rcases List.mem_cons.mp hw with q | q
      · rw [q]; exact p1
      · exact p2 w q
theorem cp1_gen {α β : Type} {cf : Nat → List D → Sto → Out D} {gs : List D} {elt : Ex} {tg : Tg} {it : Src} {vs : List Nat} {env : Env} {s s1 : Sto} {mk : α → D} {dec : β → D} {I : Sto → Prop} {P : β → Prop} {xs : List α} (h1 : evI cf gs true it env s = .ok (xs.map mk) s1) (hI : I s1)
    (h2 : ∀ x ∈ xs, ∀ s, I s → ∃ env1 v s', bindT tg (mk x) (wipeE (noOwn env) vs) = some env1 ∧ ev cf gs false elt env1 s = .ok (dec v) s' ∧ I s' ∧ P v) (hz : xs.length ≤ LINE) :
    ∃ (l : List β) (s' : Sto), evF cf gs (.cp1 elt tg it .n vs) env s = .ok (l.map dec) s' ∧ I s' ∧ l.length = xs.length ∧ ∀ v ∈ l, P v := by
  obtain ⟨l, s', e, I', hl, p⟩ := flatF_gen (f := turn1 cf gs elt tg .n vs (noOwn env)) (mk := mk) (dec := dec) (I := I) (P := P) (xs := xs) hI fun x hx s hs => by
    obtain ⟨env1, v, s', e1, e2, i, p⟩ := h2 x hx s hs
    exact ⟨v, s', by simp [turn1, e1, e2], i, p⟩
  refine ⟨l, s', ?_, I', hl, p⟩
  rw [evF_cp1', h1, ok_bind, e, ok_bind, if_pos (by rw [List.length_map, hl]; exact hz)]
theorem ir_cons {lo hi : Int} (h : lo < hi) : ir lo hi = lo :: ir (lo + 1) hi := by
  unfold ir
  have e : (hi - lo).toNat = (hi - (lo + 1)).toNat + 1 := by omega
  rw [e, List.range_succ_eq_map, List.map_cons, List.map_map]
  congr 1
  · simp
  · refine List.map_congr_left fun i _ => ?_
    simp only [Function.comp, Nat.succ_eq_add_one]
    omega
theorem ir_nil {lo hi : Int} (h : hi ≤ lo) : ir lo hi = [] := by
  unfold ir
  have e : (hi - lo).toNat = 0 := by omega
  rw [e]; rfl
end PV
namespace PV.K43
open PySem PV
section
variable {n : Nat} {s : Sto} {W H : Nat} {f : Int → Int → Int} {nm : D} {sd sh rm x y z x' y' z' : Int}
theorem e_top {L : List (Int × Int)} (hn : 1 ≤ n) (hL : ∀ p ∈ L, InB W H p) (hz : L.length ≤ 10000) : callF fs gs n 25 [bD W H f, .lst (L.map pD)] s = .ok (.int (gr f L)) s := by
  have e := e_great (s := s) (f := f) hn hL hz
  obtain ⟨m, rfl, hm⟩ := sc hn
  rw [call_at (f := c_greatest_at) rfl rfl] at e
  rw [call_at (f := c__law_top) rfl rfl]
  exact e
theorem e_flat {Ls : List (List D)} (hn : 1 ≤ n) (h1 : Ls.length ≤ 100) (h2 : ∀ l ∈ Ls, l.length ≤ 100) : callF fs gs n 17 [.lst (Ls.map D.lst)] s = .ok (.lst Ls.flatten) s := by
  obtain ⟨m, rfl, hm⟩ := sc hn
  rw [call_at (f := c__law_flat) rfl rfl]
  obtain ⟨k', e1⟩ := forF_app (f := stepF (callF fs gs m) gs (.nm 2) (.c (.ext 1 (.var 2)) .nil)) (mk := D.lst) (E := fun acc (k : Option SV) => [some (.val (.lst (Ls.map D.lst))), some (.own acc), k]) (g := fun l => l) (s := s) (M := 10000) (c := 100) (xs := Ls)
    (fun l hl acc k ha => ⟨some (.val (.lst l)), by
      have := h2 l hl
      have hz : acc.length + l.length ≤ LINE := by show _ ≤ 16777216; omega
      simp [stepF, chg, hz]⟩) h2 [] none (by simp; omega)
  have e2 : ∀ env, env = [some (SV.val (.lst (Ls.map D.lst))), some (.own []), none] → exec (callF fs gs m) gs (.for (.nm 2) (.seq (.var 0)) (.c (.ext 1 (.var 2)) .nil)) env s = .ok (.nx [some (SV.val (.lst (Ls.map D.lst))), some (.own Ls.flatten), k']) s := by
    rintro env rfl
    rw [exec_for]
    have e3 : frzI [some (SV.val (.lst (Ls.map D.lst))), some (.own []), none] (.seq (.var 0)) = [some (SV.val (.lst (Ls.map D.lst))), some (.own []), none] := rfl
    rw [e3]
    have e4 : evI (callF fs gs m) gs false (.seq (.var 0)) [some (SV.val (.lst (Ls.map D.lst))), some (.own []), none] s = .ok (Ls.map D.lst) s := by simp [items?]
    rw [e4, ok_bind, e1]
    simp [List.flatMap_def]
  have e5 := e2 _ rfl
  simp [c__law_flat, startE, List.replicate, e5, frzR, frzAt]
def winF (sd rm x y : Int) (W H : Nat) : List (Int × Int) := (ir (mx 0 (x - rm)) (mn W (x + sd + rm))).flatMap fun a => (ir (mx 0 (y - rm)) (mn H (y + sd + rm))).map fun b => (a, b)
theorem mem_win {p : Int × Int} : p ∈ winF sd rm x y W H ↔ InB W H p ∧ (x - rm ≤ p.1 ∧ p.1 < x + sd + rm) ∧ y - rm ≤ p.2 ∧ p.2 < y + sd + rm := by
  unfold winF InB
  simp only [List.mem_flatMap, List.mem_map, mem_ir]
  unfold mx mn
  constructor
  · rintro ⟨a, ha, b, hb, rfl⟩
    refine ⟨?_, ?_⟩ <;> (split at ha <;> split at ha <;> split at hb <;> split at hb <;> simp only <;> omega)
  · rintro ⟨h1, h2⟩
    exact ⟨p.1, by split <;> split <;> omega, p.2, by split <;> split <;> omega, rfl⟩
theorem win_len (hW : W ≤ 10) (hH : H ≤ 10) : (winF sd rm x y W H).length ≤ 100 := by
  refine Nat.le_trans (flatMap_le (c := 10) fun a _ => ?_) ?_
  · rw [List.length_map]
    have := ir_le (hi := y + sd + rm) (x := y - rm) (W := H); omega
  · have := ir_le (hi := x + sd + rm) (x := x - rm) (W := W); omega
theorem e_window {nm sh : D} {r4 : D} (hsd : 0 ≤ sd ∧ sd ≤ 3) (hrm : 0 ≤ rm ∧ rm ≤ 1) (hx : 0 ≤ x ∧ x ≤ 1000) (hy : 0 ≤ y ∧ y ≤ 1000) (hW : W ≤ 10) (hH : H ≤ 10) (hn : 2 ≤ n) : callF fs gs n 24 [.tup [.int W, .int H], .tup [nm, .int sd, sh, r4], .int x, .int y, .int rm] s = .ok (.lst ((winF sd rm x y W H).map pD)) s := by
  obtain ⟨m, rfl, hm⟩ := sc hn
  rw [call_at (f := c__law_window) rfl rfl]
  have r1 := rng2_ir (i := mx 0 (x - rm)) (j := mn W (x + sd + rm)) (by unfold mx mn; split <;> split <;> omega)
  have r2 := rng2_ir (i := mx 0 (y - rm)) (j := mn H (y + sd + rm)) (by unfold mx mn; split <;> split <;> omega)
  have l1 := ir_le (hi := x + sd + rm) (x := x - rm) (W := W)
  have l2 := ir_le (hi := y + sd + rm) (x := y - rm) (W := H)
  have inner : ∀ (a : Int) env, env = [some (SV.val (.tup [.int W, .int H])), some (.val (.tup [nm, .int sd, sh, r4])), some (.val (.int x)), some (.val (.int y)), some (.val (.int rm)), some (.val (.int a)), none] →
      evF (callF fs gs m) gs (.cp1 (.tup (.c (.var 5) (.c (.var 6) .nil))) (.nm 6) (.rg2 (.blt .max (.c (.int 0) (.c (.bin .sub (.var 3) (.var 4)) .nil))) (.blt .min (.c (.idx (.var 0) (.int 1)) (.c (.bin .add (.bin .add (.var 3) (.idx (.var 1) (.int 1))) (.var 4)) .nil)))) .n [6]) env s = .ok ((ir (mx 0 (y - rm)) (mn H (y + sd + rm))).map fun b => pD (a, b)) s := by
    rintro a env rfl
    exact cp1_map (xs := ir (mx 0 (y - rm)) (mn H (y + sd + rm))) (mk := D.int) (g := fun b => pD (a, b)) (by simp [r2]) (fun b hb => ⟨_, rfl, by simp [noOwn, wipeE, pD]⟩) (by show _ ≤ 16777216; omega)
  have outer : ∀ env, env = [some (SV.val (.tup [.int W, .int H])), some (.val (.tup [nm, .int sd, sh, r4])), some (.val (.int x)), some (.val (.int y)), some (.val (.int rm)), none, none] →
      evF (callF fs gs m) gs (.cp1 (.fz (.cp1 (.tup (.c (.var 5) (.c (.var 6) .nil))) (.nm 6) (.rg2 (.blt .max (.c (.int 0) (.c (.bin .sub (.var 3) (.var 4)) .nil))) (.blt .min (.c (.idx (.var 0) (.int 1)) (.c (.bin .add (.bin .add (.var 3) (.idx (.var 1) (.int 1))) (.var 4)) .nil)))) .n [6])) (.nm 5) (.rg2 (.blt .max (.c (.int 0) (.c (.bin .sub (.var 2) (.var 4)) .nil))) (.blt .min (.c (.idx (.var 0) (.int 0)) (.c (.bin .add (.bin .add (.var 2) (.idx (.var 1) (.int 1))) (.var 4)) .nil)))) .n [5]) env s
        = .ok (((ir (mx 0 (x - rm)) (mn W (x + sd + rm))).map fun a => (ir (mx 0 (y - rm)) (mn H (y + sd + rm))).map fun b => pD (a, b)).map D.lst) s := by
    rintro env rfl
    rw [List.map_map]
    refine cp1_map (xs := ir (mx 0 (x - rm)) (mn W (x + sd + rm))) (mk := D.int) (g := D.lst ∘ fun a => (ir (mx 0 (y - rm)) (mn H (y + sd + rm))).map fun b => pD (a, b)) (by simp [r1]) (fun a ha => ⟨_, rfl, ?_⟩) (by show _ ≤ 16777216; omega)
    have e := inner a _ rfl
    simp [noOwn, wipeE, e]
  have e1 := outer _ rfl
  have e2 := e_flat (n := m) (s := s) (Ls := (ir (mx 0 (x - rm)) (mn W (x + sd + rm))).map fun a => (ir (mx 0 (y - rm)) (mn H (y + sd + rm))).map fun b => pD (a, b)) (by omega) (by rw [List.length_map]; omega) (fun l hl => by
    obtain ⟨a, _, rfl⟩ := List.mem_map.mp hl
    rw [List.length_map]; omega)
  have e3 : ((ir (mx 0 (x - rm)) (mn W (x + sd + rm))).map fun a => (ir (mx 0 (y - rm)) (mn H (y + sd + rm))).map fun b => pD (a, b)).flatten = (winF sd rm x y W H).map pD := by
    unfold winF
    rw [List.map_flatMap, List.flatMap_def]
    simp only [List.map_map]
    rfl
  rw [e3] at e2
  generalize ((ir (mx 0 (x - rm)) (mn W (x + sd + rm))).map fun a => (ir (mx 0 (y - rm)) (mn H (y + sd + rm))).map fun b => pD (a, b)).map D.lst = M at e1 e2
  simp [c__law_window, startE, frzR, List.replicate, e1, e2, borrows, isOwn]
end
end PV.K43
set_option maxRecDepth 100000
set_option maxHeartbeats 4000000
namespace PV.K43
open PySem PV
section
variable {n : Nat} {s : Sto} {W H : Nat} {f : Int → Int → Int} {nm : D} {sd sh rm x y z x' y' z' : Int}
def toolD (t : Str × Int × Int × Int) : D := .tup [.str t.1, .int t.2.1, .int t.2.2.1, .int t.2.2.2]
def ToolP (t : Str × Int × Int × Int) : Prop := (1 ≤ t.2.1 ∧ t.2.1 ≤ 3) ∧ (1 ≤ t.2.2.1 ∧ t.2.2.1 ≤ 4) ∧ 0 ≤ t.2.2.2 ∧ t.2.2.2 ≤ 1
theorem e_tools (hb : Bx s) (hn : 3 ≤ n) : ∃ (t : Str × Int × Int × Int) (r : List (Str × Int × Int × Int)) (s' : Sto), callF fs gs n 23 [.loc 1] s = .ok (.tup (toolD t :: r.map toolD)) s' ∧ Bx s' ∧ ToolP t := by
  obtain ⟨m, rfl, hm⟩ := sc hn
  rw [call_at (f := c__law_tools) rfl rfl]
  obtain ⟨d, s1, e1, hd, hb1⟩ := e_draw (many := 3) hb (by omega) hm
  have turn : ∀ (env : Env) (x : Str) (s2 : Sto), env[1]? = some (some (.val (.str x))) → env[0]? = some (some (.val (.loc 1))) → Bx s2 → ∃ (t : Str × Int × Int × Int) (s' : Sto), ev (callF fs gs m) gs false (.tup (.c (.var 1) (.c (.bin .add (.int 1) (.call 20 (.c (.var 0) (.c (.int 3) .nil)))) (.c (.bin .add (.int 1) (.call 20 (.c (.var 0) (.c (.int 4) .nil)))) (.c (.call 20 (.c (.var 0) (.c (.int 2) .nil))) .nil))))) env s2 = .ok (toolD t) s' ∧ Bx s' ∧ ToolP t := by
    intro env x s2 h1 h0 hb2
    obtain ⟨d1, t1, g1, k1, b1⟩ := e_draw (many := 3) hb2 (by omega) hm
    obtain ⟨d2, t2, g2, k2, b2⟩ := e_draw (many := 4) b1 (by omega) hm
    obtain ⟨d3, t3, g3, k3, b3⟩ := e_draw (many := 2) b2 (by omega) hm
    refine ⟨(x, 1 + d1, 1 + d2, d3), t3, by simp [h0, h1, g1, g2, g3, borrows, isOwn, toolD], b3, ?_⟩
    unfold ToolP
    simp only
    omega
  have main : ∀ (l : List Str), l ≠ [] → l.length ≤ 10 → (evI (callF fs gs m) gs true (.seq (.slc (.tup (.c (.str "a") (.c (.str "b") (.c (.str "c") .nil)))) .n (.s (.bin .add (.int 1) (.call 20 (.c (.var 0) (.c (.int 3) .nil))))))) [some (SV.val (.loc 1)), none] s = .ok (l.map D.str) s1) →
      ∃ (t : Str × Int × Int × Int) (r : List (Str × Int × Int × Int)) (s' : Sto), retOf (execs (callF fs gs m) gs c__law_tools.body (startE c__law_tools.N.length [.loc 1]) s) = .ok (.tup (toolD t :: r.map toolD)) s' ∧ Bx s' ∧ ToolP t := by
    intro l hl hz he
    obtain ⟨L, s', e2, b', hlen, hp⟩ := cp1_gen (cf := callF fs gs m) (gs := gs) (elt := .tup (.c (.var 1) (.c (.bin .add (.int 1) (.call 20 (.c (.var 0) (.c (.int 3) .nil)))) (.c (.bin .add (.int 1) (.call 20 (.c (.var 0) (.c (.int 4) .nil)))) (.c (.call 20 (.c (.var 0) (.c (.int 2) .nil))) .nil))))) (tg := .nm 1) (vs := [1]) (mk := D.str) (dec := toolD) (I := Bx) (P := ToolP) (xs := l) he hb1
      (fun x hx s2 hb2 => by
        obtain ⟨t, s3, g1, g2, g3⟩ := turn [some (SV.val (.loc 1)), some (.val (.str x))] x s2 rfl rfl hb2
        exact ⟨_, t, s3, rfl, g1, g2, g3⟩) (by show _ ≤ 16777216; omega)
    cases L with
    | nil => cases l with
      | nil => exact absurd rfl hl
      | cons a l => simp at hlen
    | cons t r =>
      refine ⟨t, r, s', ?_, b', hp t List.mem_cons_self⟩
      simp [c__law_tools, startE, List.replicate, frzR, e2]
  rcases (by omega : d = 0 ∨ d = 1 ∨ d = 2) with rfl | rfl | rfl
  · exact main ["a"] (by simp) (by simp) (by simp [e1, borrows, isOwn, items?])
  · exact main ["a", "b"] (by simp) (by simp) (by simp [e1, borrows, isOwn, items?])
  · exact main ["a", "b", "c"] (by simp) (by simp) (by simp [e1, borrows, isOwn, items?])
theorem block_of {rows : List (List Int)} (h1 : rows.length = H) (h2 : ∀ r ∈ rows, r.length = W) : D.tup (rows.map fun r => D.tup (r.map D.int)) = bD W H (fun a b => (rows.getD b.toNat []).getD a.toNat 0) := by
  unfold bD
  congr 1
  apply List.ext_getElem
  · simp [h1]
  · intro i g1 g2
    simp only [List.getElem_map, List.getElem_range]
    have hi : i < rows.length := by simpa using g1
    have hr := h2 rows[i] (List.getElem_mem hi)
    unfold rowD
    congr 1
    apply List.ext_getElem
    · simp [hr]
    · intro j k1 k2
      have hj : j < rows[i].length := by simpa using k1
      simp [List.getD, List.getElem?_eq_getElem hi, List.getElem?_eq_getElem hj]
theorem e_block {top : Int} (hb : Bx s) (hW : W ≤ 10) (hH : H ≤ 10) (ht : 0 ≤ top ∧ top ≤ 100) (hn : 3 ≤ n) : ∃ (f : Int → Int → Int) (s' : Sto), callF fs gs n 22 [.loc 1, .int W, .int H, .int top] s = .ok (bD W H f) s' ∧ Bx s' ∧ ∀ a b : Int, (0 ≤ a ∧ a < W) → (0 ≤ b ∧ b < H) → 0 ≤ f a b ∧ f a b ≤ top := by
  obtain ⟨m, rfl, hm⟩ := sc hn
  rw [call_at (f := c__law_block) rfl rfl]
  have inner : ∀ (env : Env) (s2 : Sto), env = [some (SV.val (.loc 1)), some (.val (.int W)), some (.val (.int H)), some (.val (.int top)), env.getD 4 none, none] → Bx s2 →
      ∃ (l : List Int) (s' : Sto), evF (callF fs gs m) gs (.cp1 (.call 20 (.c (.var 0) (.c (.bin .add (.var 3) (.int 1)) .nil))) (.nm 5) (.rg1 (.var 1)) .n [5]) env s2 = .ok (l.map D.int) s' ∧ Bx s' ∧ l.length = W ∧ ∀ v ∈ l, 0 ≤ v ∧ v ≤ top := by
    intro env s2 he hb2
    obtain ⟨l, s', e2, b', hl, hp⟩ := cp1_gen (cf := callF fs gs m) (gs := gs) (elt := .call 20 (.c (.var 0) (.c (.bin .add (.var 3) (.int 1)) .nil))) (tg := .nm 5) (it := .rg1 (.var 1)) (vs := [5]) (env := env) (s := s2) (s1 := s2) (mk := D.int) (dec := D.int) (I := Bx) (P := fun v => 0 ≤ v ∧ v ≤ top) (xs := ir 0 W)
      (by rw [he]; simp [rng1_ir (j := W) (by omega)]) hb2 (fun i hi s3 hb3 => by
        obtain ⟨d, s4, g1, g2, g3⟩ := e_draw (many := top + 1) hb3 (by omega) hm
        generalize env.getD 4 none = o4 at he
        subst he
        refine ⟨_, d, s4, rfl, ?_, g3, by omega⟩
        cases o4 with
        | none => simp [noOwn, wipeE, g1, borrows, isOwn]
        | some q => cases q <;> simp [noOwn, wipeE, g1, borrows, isOwn]) (by rw [ir_len]; show _ ≤ 16777216; omega)
    exact ⟨l, s', e2, b', by rw [hl, ir_len]; omega, hp⟩
  obtain ⟨rows, s', e2, b', hl, hp⟩ := cp1_gen (cf := callF fs gs m) (gs := gs) (elt := .blt .tup (.c (.fz (.cp1 (.call 20 (.c (.var 0) (.c (.bin .add (.var 3) (.int 1)) .nil))) (.nm 5) (.rg1 (.var 1)) .n [5])) .nil)) (tg := .nm 4) (it := .rg1 (.var 2)) (vs := [4]) (env := [some (SV.val (.loc 1)), some (.val (.int W)), some (.val (.int H)), some (.val (.int top)), none, none]) (s := s) (s1 := s) (mk := D.int) (dec := fun (l : List Int) => D.tup (l.map D.int)) (I := Bx) (P := fun (l : List Int) => l.length = W ∧ ∀ v ∈ l, 0 ≤ v ∧ v ≤ top) (xs := ir 0 H)
    (by simp [rng1_ir (j := H) (by omega)]) hb (fun i hi s3 hb3 => by
      obtain ⟨l, s4, g1, g2, g3, g4⟩ := inner [some (SV.val (.loc 1)), some (.val (.int W)), some (.val (.int H)), some (.val (.int top)), some (.val (.int i)), none] s3 rfl hb3
      exact ⟨_, l, s4, rfl, by simp [noOwn, wipeE, g1], g2, g3, g4⟩) (by rw [ir_len]; show _ ≤ 16777216; omega)
  refine ⟨fun a b => (rows.getD b.toNat []).getD a.toNat 0, s', ?_, b', fun a b ha hb => ?_⟩
  · rw [← block_of (by rw [hl, ir_len]; omega) fun r hr => (hp r hr).1]
    simp [c__law_block, startE, List.replicate, frzR, e2]
  · have h1 : b.toNat < rows.length := by rw [hl, ir_len]; omega
    have h2 := hp rows[b.toNat] (List.getElem_mem h1)
    have h3 : a.toNat < rows[b.toNat].length := by rw [h2.1]; omega
    have := h2.2 rows[b.toNat][a.toNat] (List.getElem_mem h3)
    simpa [List.getD, List.getElem?_eq_getElem h1, List.getElem?_eq_getElem h3] using this
end
end PV.K43
set_option maxRecDepth 100000
set_option maxHeartbeats 4000000
namespace PV.K43
open PySem PV
/-! ### what the strike says: plain mathematics -/
theorem mn_s (i j : Int) : (mn i j ≤ i ∧ mn i j ≤ j) ∧ (mn i j = i ∨ mn i j = j) := by unfold mn; split <;> omega
theorem mx_s (i j : Int) : (i ≤ mx i j ∧ j ≤ mx i j) ∧ (mx i j = i ∨ mx i j = j) := by unfold mx; split <;> omega
def mv (c c' j : Int) : Int := if c < c' then c + j else if c' < c then c - j else c
theorem mv_s (c c' j : Int) : (c < c' ∧ mv c c' j = c + j) ∨ (c' < c ∧ mv c c' j = c - j) ∨ (c = c' ∧ mv c c' j = c) := by unfold mv; split <;> (try split) <;> omega
theorem minO_mem {l : List Int} {k : Int} (h : minO l = some k) : k ∈ l ∧ ∀ y ∈ l, k ≤ y := by
  cases l with
  | nil => cases h
  | cons x l =>
    have e : minI (x :: l) = k := by simpa [minO] using h
    subst e
    refine ⟨minI_mem, fun y hy => ?_⟩
    have := (le_minI (l := l) (x := x) (z := minI (x :: l))).mp (Int.le_refl _)
    rcases List.mem_cons.mp hy with q | q
    · rw [q]; exact this.1
    · exact this.2 y q
theorem minO_ex {l : List Int} {y : Int} (h : y ∈ l) : ∃ k, minO l = some k ∧ k ≤ y := by
  cases l with
  | nil => cases h
  | cons x l =>
    refine ⟨_, rfl, ?_⟩
    have := (le_minI (l := l) (x := x) (z := minI (x :: l))).mp (Int.le_refl _)
    rcases List.mem_cons.mp h with q | q
    · rw [q]; exact this.1
    · exact this.2 y q
theorem mem_fm {L : List (Option Int)} {k : Int} : k ∈ L.filterMap id ↔ some k ∈ L := by simp
theorem fmO_1 {f b e lo hi k : Int} (hne : b ≠ e) (h : fmO f b e lo hi = some k) : (1 ≤ k ∧ k ≤ absI (e - b)) ∧ f - hi ≤ mv b e k ∧ mv b e k ≤ f + lo := by
  unfold fmO at h
  have h1 := mx_s (b + 1) (f - hi)
  have h2 := mn_s e (f + lo)
  have h3 := mx_s e (f - hi)
  have h4 := mn_s (b - 1) (f + lo)
  have h5 := mv_s b e k
  unfold absI
  split at h
  · split at h
    · cases h; split <;> omega
    · cases h
  · split at h
    · cases h; split <;> omega
    · cases h
theorem fmO_2 {f b e lo hi j : Int} (hne : b ≠ e) (hj : 1 ≤ j ∧ j ≤ absI (e - b)) (h : f - hi ≤ mv b e j ∧ mv b e j ≤ f + lo) : ∃ k, fmO f b e lo hi = some k ∧ k ≤ j := by
  unfold fmO
  have h1 := mx_s (b + 1) (f - hi)
  have h2 := mn_s e (f + lo)
  have h3 := mx_s e (f - hi)
  have h4 := mn_s (b - 1) (f + lo)
  have h5 := mv_s b e j
  unfold absI at hj
  by_cases c : b < e
  · rw [if_pos c, if_pos (by split at hj <;> omega)]
    exact ⟨_, rfl, by split at hj <;> omega⟩
  · rw [if_neg c, if_pos (by split at hj <;> omega)]
    exact ⟨_, rfl, by split at hj <;> omega⟩
theorem mem_sthL {ax sd rm lim x y x' y' : Int} {f : Int → Int → Int} {W H : Nat} {o : Option Int} : o ∈ sthL ax sd rm lim x y x' y' f W H ↔ ∃ a b : Int, ((0 ≤ a ∧ a < W) ∧ 0 ≤ b ∧ b < H) ∧ cond ax sd rm lim x y f a b ∧ o = fmO (pk ax a b) (pk ax x y) (pk ax x' y') rm (sd - 1 + rm) := by
  unfold sthL sthR
  simp only [List.mem_flatMap, List.mem_range]
  constructor
  · rintro ⟨b, hb, a, ha, h⟩
    split at h
    · rename_i hc
      rw [List.mem_singleton] at h
      exact ⟨a, b, by omega, hc, h⟩
    · cases h
  · rintro ⟨a, b, h1, h2, h3⟩
    refine ⟨b.toNat, by omega, a.toNat, by omega, ?_⟩
    have e1 : ((a.toNat : Nat) : Int) = a := by omega
    have e2 : ((b.toNat : Nat) : Int) = b := by omega
    rw [e1, e2, if_pos h2, h3]
    simp
/-- a field that stands too high in the window at X, Y -/
def Sv (sd r lim X Y : Int) (f : Int → Int → Int) (W H : Nat) : Prop := ∃ a b : Int, ((0 ≤ a ∧ a < W) ∧ 0 ≤ b ∧ b < H) ∧ ((X - r ≤ a ∧ a < X + sd + r) ∧ Y - r ≤ b ∧ b < Y + sd + r) ∧ lim < f a b
section
variable {sd sh rm x y z x' y' z' : Int} {f : Int → Int → Int} {W H : Nat}
/-- the steps to a height, on one axis -/
theorem sth_1 {ax r lim k : Int} (hax : (ax = 0 ∧ x ≠ x' ∧ y = y') ∨ (ax = 1 ∧ x = x' ∧ y ≠ y')) (h : minO ((sthL ax sd r lim x y x' y' f W H).filterMap id) = some k) :
    (1 ≤ k ∧ k ≤ absI (x' - x) + absI (y' - y)) ∧ Sv sd r lim (mv x x' k) (mv y y' k) f W H := by
  have h1 := (minO_mem h).1
  rw [mem_fm, mem_sthL] at h1
  obtain ⟨a, b, hin, ⟨hc1, hc2, hc3⟩, ho⟩ := h1
  rcases hax with ⟨rfl, hx, hy⟩ | ⟨rfl, hx, hy⟩
  · have := fmO_1 (b := x) (e := x') hx (k := k) (f := a) (lo := r) (hi := sd - 1 + r) (by rw [ho]; simp [pk])
    simp [pk] at hc2 hc3
    have m1 := mv_s x x' k
    have m2 := mv_s y y' k
    have n1 : 0 ≤ absI (y' - y) := by unfold absI; split <;> omega
    exact ⟨by omega, a, b, hin, by omega, hc1⟩
  · have := fmO_1 (b := y) (e := y') hy (k := k) (f := b) (lo := r) (hi := sd - 1 + r) (by rw [ho]; simp [pk])
    simp [pk] at hc2 hc3
    have m1 := mv_s x x' k
    have m2 := mv_s y y' k
    have n1 : 0 ≤ absI (x' - x) := by unfold absI; split <;> omega
    exact ⟨by omega, a, b, hin, by omega, hc1⟩
theorem sth_2 {ax r lim j : Int} (hax : (ax = 0 ∧ x ≠ x' ∧ y = y') ∨ (ax = 1 ∧ x = x' ∧ y ≠ y')) (hj : 1 ≤ j ∧ j ≤ absI (x' - x) + absI (y' - y)) (h : Sv sd r lim (mv x x' j) (mv y y' j) f W H) :
    ∃ k, minO ((sthL ax sd r lim x y x' y' f W H).filterMap id) = some k ∧ k ≤ j := by
  obtain ⟨a, b, hin, hw, hl⟩ := h
  have m1 := mv_s x x' j
  have m2 := mv_s y y' j
  rcases hax with ⟨rfl, hx, hy⟩ | ⟨rfl, hx, hy⟩
  · have n1 : absI (y' - y) = 0 := by unfold absI; split <;> omega
    obtain ⟨k, e, hk⟩ := fmO_2 (b := x) (e := x') hx (j := j) (f := a) (lo := r) (hi := sd - 1 + r) (by omega) (by omega)
    have : k ∈ (sthL 0 sd r lim x y x' y' f W H).filterMap id := by
      rw [mem_fm, mem_sthL]
      exact ⟨a, b, hin, ⟨hl, by simp [pk]; omega, by simp [pk]; omega⟩, by simp [pk, e]⟩
    obtain ⟨k2, e2, h2⟩ := minO_ex this
    exact ⟨k2, e2, by omega⟩
  · have n1 : absI (x' - x) = 0 := by unfold absI; split <;> omega
    obtain ⟨k, e, hk⟩ := fmO_2 (b := y) (e := y') hy (j := j) (f := b) (lo := r) (hi := sd - 1 + r) (by omega) (by omega)
    have : k ∈ (sthL 1 sd r lim x y x' y' f W H).filterMap id := by
      rw [mem_fm, mem_sthL]
      exact ⟨a, b, hin, ⟨hl, by simp [pk]; omega, by simp [pk]; omega⟩, by simp [pk, e]⟩
    obtain ⟨k2, e2, h2⟩ := minO_ex this
    exact ⟨k2, e2, by omega⟩
def VL (k : Bool) (sd sh rm z : Int) (f : Int → Int → Int) (W H : Nat) (X Y : Int) : Prop := Sv sd rm (z + sh) X Y f W H ∨ (k = true ∧ Sv sd 0 z X Y f W H)
theorem lv_1 {k : Bool} {ax j : Int} (hax : (ax = 0 ∧ x ≠ x' ∧ y = y') ∨ (ax = 1 ∧ x = x' ∧ y ≠ y')) (h : lvO k ax sd sh rm x y z x' y' f W H = some j) :
    (0 ≤ j ∧ j < absI (x' - x) + absI (y' - y)) ∧ VL k sd sh rm z f W H (mv x x' (j + 1)) (mv y y' (j + 1)) := by
  unfold lvO at h
  rw [Option.map_eq_some_iff] at h
  obtain ⟨i, h, rfl⟩ := h
  have h1 := (minO_mem h).1
  rw [mem_fm] at h1
  have e : i - 1 + 1 = i := by omega
  rw [e]
  unfold lvL at h1
  rcases List.mem_cons.mp h1 with q | q
  · obtain ⟨a, b⟩ := sth_1 hax q.symm
    exact ⟨by omega, .inl b⟩
  · cases k with
    | true =>
      simp only [if_true, List.mem_singleton] at q
      obtain ⟨a, b⟩ := sth_1 hax q.symm
      exact ⟨by omega, .inr ⟨rfl, b⟩⟩
    | false => simp at q
theorem lv_2 {k : Bool} {ax j : Int} (hax : (ax = 0 ∧ x ≠ x' ∧ y = y') ∨ (ax = 1 ∧ x = x' ∧ y ≠ y')) (hj : 0 ≤ j ∧ j < absI (x' - x) + absI (y' - y)) (h : VL k sd sh rm z f W H (mv x x' (j + 1)) (mv y y' (j + 1))) :
    ∃ i, lvO k ax sd sh rm x y z x' y' f W H = some i ∧ i ≤ j := by
  have : ∃ i, some i ∈ lvL k ax sd sh rm x y z x' y' f W H ∧ i ≤ j + 1 := by
    rcases h with h | ⟨rfl, h⟩
    · obtain ⟨i, e, hi⟩ := sth_2 hax (by omega) h
      exact ⟨i, by unfold lvL; rw [e]; exact List.mem_cons_self, hi⟩
    · obtain ⟨i, e, hi⟩ := sth_2 hax (by omega) h
      exact ⟨i, by unfold lvL; simp only [if_true]; rw [e]; exact List.mem_cons_of_mem _ List.mem_cons_self, hi⟩
  obtain ⟨i, h1, h2⟩ := this
  rw [← mem_fm] at h1
  obtain ⟨i2, e2, h3⟩ := minO_ex h1
  exact ⟨i2 - 1, by unfold lvO; rw [e2]; rfl, by omega⟩
/-! ### the walk step by step -/
def Fj (sd x y z x' y' z' : Int) (f : Int → Int → Int) (j : Int) : Int → Int → Int := behf sd x y z (mv x x' j) (mv y y' j) (mv z z' j) f
def viol (k : Bool) (sd sh rm x y z x' y' z' : Int) (f : Int → Int → Int) (W H : Nat) (j : Int) : Prop :=
  (k = true ∧ ¬ gr (Fj sd x y z x' y' z' f j) (benF sd (mv x x' (j + 1)) (mv y y' (j + 1))) ≤ mv z z' (j + 1)) ∨
    ¬ gr (Fj sd x y z x' y' z' f j) (benF sd (mv x x' (j + 1)) (mv y y' (j + 1)) ++ abF sd rm (mv x x' (j + 1)) (mv y y' (j + 1)) W H) ≤ mv z z' (j + 1) + sh
theorem gr_not {F : Int → Int → Int} {L : List (Int × Int)} {t : Int} (h : 0 ≤ t) : ¬ gr F L ≤ t ↔ ∃ p ∈ L, t < F p.1 p.2 := by
  rw [gr_le]
  constructor
  · intro q
    refine Classical.byContradiction fun n => q ⟨h, fun p hp => ?_⟩
    exact Int.not_lt.mp fun r => n ⟨p, hp, r⟩
  · rintro ⟨p, hp, r⟩ ⟨_, q⟩
    have := q p hp; omega
theorem behf_le (a b : Int) : behf sd x y z x' y' z' f a b ≤ f a b := by
  unfold behf
  split
  · exact (mn_s _ _).1.1
  · exact Int.le_refl _
end
end PV.K43
set_option maxRecDepth 100000
set_option maxHeartbeats 4000000
namespace PV.K43
open PySem PV
section
variable {sd sh rm x y z x' y' z' : Int} {f : Int → Int → Int} {W H : Nat} {k : Bool}
def InS (sd x y a b : Int) : Prop := (x ≤ a ∧ a < x + sd) ∧ y ≤ b ∧ b < y + sd
instance {a b : Int} : Decidable (InS sd x y a b) := inferInstanceAs (Decidable ((_ ∧ _) ∧ _ ∧ _))
/-- exactly one coordinate moves -/
def One (x y z x' y' z' : Int) : Prop := (x ≠ x' ∧ y = y' ∧ z = z') ∨ (x = x' ∧ y ≠ y' ∧ z = z') ∨ (x = x' ∧ y = y' ∧ z ≠ z')
def Swp (sd x y X Y a b : Int) : Prop := (mn y Y ≤ b ∧ b ≤ mx y Y + sd - 1) ∧ mn x X ≤ a ∧ a ≤ mx x X + sd - 1
instance {X Y a b : Int} : Decidable (Swp sd x y X Y a b) := inferInstanceAs (Decidable ((_ ∧ _) ∧ _ ∧ _))
theorem behf_in {a b : Int} (h : Swp sd x y x' y' a b) : behf sd x y z x' y' z' f a b = mn (f a b) (mn z z') := if_pos h
theorem behf_out {a b : Int} (h : ¬ Swp sd x y x' y' a b) : behf sd x y z x' y' z' f a b = f a b := if_neg h
/-- what is swept was beneath the tool at some step -/
theorem swp_ex (h1 : 1 ≤ sd) (hO : One x y z x' y' z') {j a b : Int} (hj : 0 ≤ j) (h : Swp sd x y (mv x x' j) (mv y y' j) a b) : ∃ i, (0 ≤ i ∧ i ≤ j) ∧ InS sd (mv x x' i) (mv y y' i) a b := by
  unfold Swp at h
  have m1 := mv_s x x' j
  have m2 := mv_s y y' j
  have p1 := mn_s x (mv x x' j)
  have p2 := mx_s x (mv x x' j)
  have p3 := mn_s y (mv y y' j)
  have p4 := mx_s y (mv y y' j)
  by_cases c0 : InS sd x y a b
  · exact ⟨0, ⟨Int.le_refl _, hj⟩, by have q1 := mv_s x x' 0; have q2 := mv_s y y' 0; unfold InS at *; omega⟩
  · unfold InS at c0
    rcases hO with ⟨hx, hy, hz⟩ | ⟨hx, hy, hz⟩ | ⟨hx, hy, hz⟩
    · by_cases c : x < x'
      · refine ⟨a - x - sd + 1, by omega, ?_⟩
        have q1 := mv_s x x' (a - x - sd + 1)
        have q2 := mv_s y y' (a - x - sd + 1)
        unfold InS; omega
      · refine ⟨x - a, by omega, ?_⟩
        have q1 := mv_s x x' (x - a)
        have q2 := mv_s y y' (x - a)
        unfold InS; omega
    · by_cases c : y < y'
      · refine ⟨b - y - sd + 1, by omega, ?_⟩
        have q1 := mv_s x x' (b - y - sd + 1)
        have q2 := mv_s y y' (b - y - sd + 1)
        unfold InS; omega
      · refine ⟨y - b, by omega, ?_⟩
        have q1 := mv_s x x' (y - b)
        have q2 := mv_s y y' (y - b)
        unfold InS; omega
    · exfalso; omega
theorem Fj_le {j a b : Int} : Fj sd x y z x' y' z' f j a b ≤ f a b := behf_le a b
/-- where the tool stands, within the block -/
def Fit (sd : Int) (W H : Nat) (X Y : Int) : Prop := (0 ≤ X ∧ X + sd ≤ W) ∧ 0 ≤ Y ∧ Y + sd ≤ H
/-- sideways: the first trouble is where the fields were too high from the start -/
theorem viol_level (h1 : 1 ≤ sd) (h2 : 1 ≤ sh) (h3 : 0 ≤ rm) (hz : z = z') (h0 : 0 ≤ z) (hO : One x y z x' y' z') {j : Int} (hj : 0 ≤ j) (hfit : Fit sd W H (mv x x' (j + 1)) (mv y y' (j + 1))) (hc : ∀ a b, InS sd x y a b → f a b ≤ z)
    (prev : ∀ i, 0 ≤ i → i < j → ¬ VL k sd sh rm z f W H (mv x x' (i + 1)) (mv y y' (i + 1))) : viol k sd sh rm x y z x' y' z' f W H j ↔ VL k sd sh rm z f W H (mv x x' (j + 1)) (mv y y' (j + 1)) := by
  have ez : ∀ i, mv z z' i = z := fun i => by have := mv_s z z' i; omega
  unfold viol VL
  rw [ez, gr_not h0, gr_not (by omega)]
  generalize hX : mv x x' (j + 1) = X at *
  generalize hY : mv y y' (j + 1) = Y at *
  unfold Fit at hfit
  -- a field that stands as at the start
  have same : ∀ a b lim, z ≤ lim → lim < f a b → (∀ i, 1 ≤ i → i ≤ j → InS sd (mv x x' i) (mv y y' i) a b → False) → Fj sd x y z x' y' z' f j a b = f a b := by
    intro a b lim hlim hl no
    refine behf_out fun q => ?_
    obtain ⟨i, hi, q2⟩ := swp_ex h1 hO hj q
    by_cases c : i = 0
    · subst c
      have := hc a b (by have q3 := mv_s x x' 0; have q4 := mv_s y y' 0; unfold InS at *; omega)
      omega
    · exact no i (by omega) hi.2 q2
  constructor
  · rintro (⟨hk, p, hp, hl⟩ | ⟨p, hp, hl⟩)
    · rw [mem_ben] at hp
      have := Fj_le (sd := sd) (x := x) (y := y) (z := z) (x' := x') (y' := y') (z' := z') (f := f) (j := j) (a := p.1) (b := p.2)
      exact .inr ⟨hk, p.1, p.2, by omega, by omega, by omega⟩
    · have := Fj_le (sd := sd) (x := x) (y := y) (z := z) (x' := x') (y' := y') (z' := z') (f := f) (j := j) (a := p.1) (b := p.2)
      rcases List.mem_append.mp hp with hp | hp
      · rw [mem_ben] at hp
        exact .inl ⟨p.1, p.2, by omega, by omega, by omega⟩
      · rw [mem_ab] at hp
        exact .inl ⟨p.1, p.2, hp.1, by omega, by omega⟩
  · rintro (⟨a, b, hin, hw, hl⟩ | ⟨hk, a, b, hin, hw, hl⟩)
    · right
      have e := same a b (z + sh) (by omega) hl fun i i1 i2 hi => prev (i - 1) (by omega) (by omega) (.inl ⟨a, b, hin, by
        have e : i - 1 + 1 = i := by omega
        rw [e]; unfold InS at hi; omega, hl⟩)
      refine ⟨(a, b), ?_, by simp only; rw [e]; exact hl⟩
      rw [List.mem_append, mem_ben, mem_ab]
      simp only
      omega
    · left
      have e := same a b z (Int.le_refl _) hl fun i i1 i2 hi => prev (i - 1) (by omega) (by omega) (.inr ⟨hk, a, b, hin, by
        have e : i - 1 + 1 = i := by omega
        rw [e]; unfold InS at hi; omega, hl⟩)
      refine ⟨hk, (a, b), ?_, by simp only; rw [e]; exact hl⟩
      rw [mem_ben]
      simp only
      omega
/-! ### upright -/
def VU (k : Bool) (sd sh rm x y : Int) (f : Int → Int → Int) (W H : Nat) (Z : Int) : Prop := (∃ p ∈ abF sd rm x y W H, Z + sh < f p.1 p.2) ∨ (k = true ∧ ∃ p ∈ benF sd x y, Z < f p.1 p.2)
theorem viol_up (h2 : 1 ≤ sh) (hx : x = x') (hy : y = y') (hz : z ≠ z') (h0 : 0 ≤ z ∧ 0 ≤ z') {j : Int} (hj : 0 ≤ j ∧ j < absI (z' - z)) (hc : ∀ a b, InS sd x y a b → f a b ≤ z) :
    viol k sd sh rm x y z x' y' z' f W H j ↔ VU k sd sh rm x y f W H (mv z z' (j + 1)) := by
  subst hx hy
  have e1 : ∀ i, mv x x i = x := fun i => by have := mv_s x x i; omega
  have e2 : ∀ i, mv y y i = y := fun i => by have := mv_s y y i; omega
  have m0 := mv_s z z' j
  have m1 := mv_s z z' (j + 1)
  have n0 : absI (z' - z) = z' - z ∨ absI (z' - z) = z - z' := by unfold absI; split <;> omega
  have n1 : z < z' → absI (z' - z) = z' - z := fun h => by unfold absI; rw [if_neg (by omega)]
  have n2 : z' < z → absI (z' - z) = z - z' := fun h => by unfold absI; rw [if_pos (by omega)]; omega
  have hZ : 0 ≤ mv z z' (j + 1) := by
    rcases Int.lt_or_gt_of_ne hz with h | h
    · have := n1 h; omega
    · have := n2 h; omega
  unfold viol VU
  rw [e1, e2, gr_not hZ, gr_not (by omega)]
  -- the fields beneath, the others
  have inn : ∀ a b, InS sd x y a b → Fj sd x y z x y z' f j a b = mn (f a b) (mn z (mv z z' j)) := fun a b h => by
    unfold Fj
    rw [e1, e2]
    refine behf_in ?_
    unfold Swp
    have p1 := mn_s x x
    have p2 := mx_s x x
    have p3 := mn_s y y
    have p4 := mx_s y y
    unfold InS at h
    omega
  have out : ∀ a b, ¬ InS sd x y a b → Fj sd x y z x y z' f j a b = f a b := fun a b h => by
    unfold Fj
    rw [e1, e2]
    refine behf_out fun q => h ?_
    unfold Swp at q
    have p1 := mn_s x x
    have p2 := mx_s x x
    have p3 := mn_s y y
    have p4 := mx_s y y
    unfold InS
    omega
  have q1 := mn_s z (mv z z' j)
  constructor
  · rintro (⟨hk, p, hp, hl⟩ | ⟨p, hp, hl⟩)
    · have := Fj_le (sd := sd) (x := x) (y := y) (z := z) (x' := x) (y' := y) (z' := z') (f := f) (j := j) (a := p.1) (b := p.2)
      exact .inr ⟨hk, p, hp, by omega⟩
    · rcases List.mem_append.mp hp with hp | hp
      · rw [mem_ben] at hp
        rw [inn _ _ hp] at hl
        have q2 := mn_s (f p.1 p.2) (mn z (mv z z' j))
        exfalso
        rcases Int.lt_or_gt_of_ne hz with h | h <;> omega
      · have := Fj_le (sd := sd) (x := x) (y := y) (z := z) (x' := x) (y' := y) (z' := z') (f := f) (j := j) (a := p.1) (b := p.2)
        exact .inl ⟨p, hp, by omega⟩
  · rintro (⟨p, hp, hl⟩ | ⟨hk, p, hp, hl⟩)
    · right
      refine ⟨p, List.mem_append.mpr (.inr hp), ?_⟩
      rw [mem_ab] at hp
      rw [out _ _ hp.2.2]
      exact hl
    · left
      refine ⟨hk, p, hp, ?_⟩
      rw [mem_ben] at hp
      have hfz := hc _ _ hp
      rw [inn _ _ hp]
      have q2 := mn_s (f p.1 p.2) (mn z (mv z z' j))
      rcases Int.lt_or_gt_of_ne hz with h | h <;> omega
theorem up_1 {j : Int} (hz : z ≠ z') (h0 : 0 ≤ z ∧ 0 ≤ z') (h2 : 1 ≤ sh) (hc : ∀ a b, InS sd x y a b → f a b ≤ z) (hs : ∀ p ∈ abF sd rm x y W H, f p.1 p.2 ≤ z + sh) (h : upO k sd sh rm x y z z' f W H = some j) :
    (0 ≤ j ∧ j < absI (z' - z)) ∧ VU k sd sh rm x y f W H (mv z z' (j + 1)) := by
  unfold upO at h
  split at h
  · rename_i hl
    cases h
    have g1 : gr f (abF sd rm x y W H) ≤ z + sh := gr_le.mpr ⟨by omega, hs⟩
    have g2 : gr f (benF sd x y) ≤ z := gr_le.mpr ⟨by omega, fun p hp => hc _ _ (mem_ben.mp hp)⟩
    have hL : upM k sd sh rm x y f W H ≤ z ∧ (upM k sd sh rm x y f W H = gr f (abF sd rm x y W H) - sh ∨ (k = true ∧ upM k sd sh rm x y f W H = gr f (benF sd x y))) := by
      unfold upM
      cases k with
      | true =>
        have := mx_s (gr f (abF sd rm x y W H) - sh) (gr f (benF sd x y))
        simp only [if_true]
        refine ⟨by omega, ?_⟩
        rcases this.2 with q | q
        · exact .inl q
        · exact .inr ⟨trivial, q⟩
      | false => simp only [Bool.false_eq_true, if_false]; exact ⟨by omega, .inl trivial⟩
    generalize upM k sd sh rm x y f W H = L at *
    have n2 : absI (z' - z) = z - z' := by unfold absI; rw [if_pos (by omega)]; omega
    have m1 := mv_s z z' (z - L + 1)
    have eZ : mv z z' (z - L + 1) = L - 1 := by omega
    refine ⟨by omega, ?_⟩
    rw [eZ]
    rcases hL.2 with q | ⟨hk, q⟩
    · left
      exact (gr_not (t := L - 1 + sh) (by omega)).mp (by omega)
    · right
      exact ⟨hk, (gr_not (t := L - 1) (by omega)).mp (by omega)⟩
  · cases h
theorem up_2 {j : Int} (hz : z ≠ z') (h0 : 0 ≤ z ∧ 0 ≤ z') (h2 : 1 ≤ sh) (hc : ∀ a b, InS sd x y a b → f a b ≤ z) (hs : ∀ p ∈ abF sd rm x y W H, f p.1 p.2 ≤ z + sh) (hj : 0 ≤ j ∧ j < absI (z' - z)) (h : VU k sd sh rm x y f W H (mv z z' (j + 1))) :
    ∃ i, upO k sd sh rm x y z z' f W H = some i ∧ i ≤ j := by
  have m1 := mv_s z z' (j + 1)
  have hd : z' < z := by
    refine Int.not_le.mp fun q => ?_
    rcases h with ⟨p, hp, hl⟩ | ⟨hk, p, hp, hl⟩
    · have := hs p hp; omega
    · have := hc _ _ (mem_ben.mp hp); omega
  have n2 : absI (z' - z) = z - z' := by unfold absI; rw [if_pos (by omega)]; omega
  have hL : mv z z' (j + 1) < upM k sd sh rm x y f W H := by
    unfold upM
    rcases h with h | ⟨rfl, h⟩
    · have := (gr_not (F := f) (t := mv z z' (j + 1) + sh) (by omega)).mpr h
      split
      · have := mx_s (gr f (abF sd rm x y W H) - sh) (gr f (benF sd x y)); omega
      · omega
    · have := (gr_not (F := f) (t := mv z z' (j + 1)) (by omega)).mpr h
      simp only [if_true]
      have := mx_s (gr f (abF sd rm x y W H) - sh) (gr f (benF sd x y)); omega
  unfold upO
  rw [if_pos (by omega)]
  exact ⟨_, rfl, by omega⟩
end
end PV.K43
set_option maxRecDepth 100000
set_option maxHeartbeats 1000000
namespace PV.K43
open PySem PV
section
variable {n : Nat} {s : Sto} {sd sh rm x y z x' y' z' : Int} {f : Int → Int → Int} {W H : Nat} {k : Bool}
theorem mn_l {i j : Int} (h : i ≤ j) : mn i j = i := by unfold mn; rw [if_neg (by omega)]
theorem mn_r {i j : Int} (h : j ≤ i) : mn i j = j := by unfold mn; split <;> omega
theorem mx_l {i j : Int} (h : j ≤ i) : mx i j = i := by unfold mx; rw [if_neg (by omega)]
theorem mx_r {i j : Int} (h : i ≤ j) : mx i j = j := by unfold mx; split <;> omega
theorem mv_lt {c c' j : Int} (h : c < c') : mv c c' j = c + j := if_pos h
theorem mv_gt {c c' j : Int} (h : c' < c) : mv c c' j = c - j := by unfold mv; rw [if_neg (by omega), if_pos h]
theorem mv_eq {c c' j : Int} (h : c = c') : mv c c' j = c := by unfold mv; rw [if_neg (by omega), if_neg (by omega)]
theorem absI_p {a : Int} (h : 0 ≤ a) : absI a = a := if_neg (by omega)
theorem absI_n {a : Int} (h : a < 0) : absI a = -a := if_pos h
theorem cut_in {a b : Int} (h : InS sd x y a b) : cutf sd x y z f a b = mn (f a b) z := if_pos ⟨h.2, h.1⟩
theorem cut_out {a b : Int} (h : ¬ InS sd x y a b) : cutf sd x y z f a b = f a b := if_neg fun q => h ⟨q.2, q.1⟩
theorem swp_0 {a b : Int} : Swp sd x y x y a b ↔ InS sd x y a b := by
  unfold Swp InS
  rw [mn_l (Int.le_refl x), mn_l (Int.le_refl y), mx_l (Int.le_refl x), mx_l (Int.le_refl y)]
  omega
theorem mv_0 {c c' : Int} : mv c c' 0 = c := by have := mv_s c c' 0; omega
theorem Fj_0 (hc : ∀ a b, InS sd x y a b → f a b ≤ z) : Fj sd x y z x' y' z' f 0 = f := by
  funext a b
  unfold Fj
  rw [mv_0, mv_0, mv_0]
  by_cases c : Swp sd x y x y a b
  · rw [behf_in c, mn_l (Int.le_refl z), mn_l (hc a b (swp_0.mp c))]
  · exact behf_out c
theorem mv_end {c c' : Int} : mv c c' (absI (c' - c)) = c' := by
  have := mv_s c c' (absI (c' - c))
  unfold absI at *
  split at this <;> split <;> omega
theorem Fj_N (hO : One x y z x' y' z') : Fj sd x y z x' y' z' f (absI (x' - x) + absI (y' - y) + absI (z' - z)) = behf sd x y z x' y' z' f := by
  have e0 : ∀ c : Int, absI (c - c) = 0 := fun c => by rw [absI_p (by omega)]; omega
  unfold Fj
  rcases hO with ⟨h1, rfl, rfl⟩ | ⟨rfl, h1, rfl⟩ | ⟨rfl, rfl, h1⟩
  · rw [e0, e0, Int.add_zero, Int.add_zero, mv_end, mv_eq rfl, mv_eq rfl]
  · rw [e0, e0, Int.zero_add, Int.add_zero, mv_end, mv_eq rfl, mv_eq rfl]
  · rw [e0, e0, Int.zero_add, Int.zero_add, mv_end, mv_eq rfl, mv_eq rfl]
theorem step_lat {X Y X1 Y1 : Int} (sets : ∀ a b, Swp sd x y X1 Y1 a b ↔ (InS sd X1 Y1 a b ∨ Swp sd x y X Y a b)) : cutf sd X1 Y1 z (behf sd x y z X Y z f) = behf sd x y z X1 Y1 z f := by
  funext a b
  have zz : mn z z = z := mn_l (Int.le_refl z)
  by_cases c1 : InS sd X1 Y1 a b
  · rw [cut_in c1, behf_in ((sets a b).mpr (.inl c1))]
    by_cases c2 : Swp sd x y X Y a b
    · rw [behf_in c2, zz, mn_l (mn_s (f a b) z).1.2]
    · rw [behf_out c2, zz]
  · rw [cut_out c1]
    by_cases c2 : Swp sd x y X Y a b
    · rw [behf_in c2, behf_in ((sets a b).mpr (.inr c2))]
    · rw [behf_out c2, behf_out fun q => ((sets a b).mp q).elim c1 c2]
theorem step_up {Z Z1 : Int} (h : (Z1 ≤ Z ∧ Z ≤ z) ∨ (z ≤ Z ∧ Z ≤ Z1)) : cutf sd x y Z1 (behf sd x y z x y Z f) = behf sd x y z x y Z1 f := by
  funext a b
  by_cases c1 : InS sd x y a b
  · rw [cut_in c1, behf_in (swp_0.mpr c1), behf_in (swp_0.mpr c1)]
    rcases h with h | h
    · rw [mn_r h.2, mn_r (Int.le_trans h.1 h.2)]
      have t1 := mn_s (f a b) Z
      have t2 := mn_s (f a b) Z1
      have t3 := mn_s (mn (f a b) Z) Z1
      omega
    · rw [mn_l h.1, mn_l (Int.le_trans h.1 h.2)]
      have t1 := mn_s (f a b) z
      have t3 := mn_s (mn (f a b) z) Z1
      omega
  · rw [cut_out c1, behf_out (fun q => c1 (swp_0.mp q)), behf_out fun q => c1 (swp_0.mp q)]
theorem Fj_step (h1 : 1 ≤ sd) (hO : One x y z x' y' z') {j : Int} (hj : 0 ≤ j) : cutf sd (mv x x' (j + 1)) (mv y y' (j + 1)) (mv z z' (j + 1)) (Fj sd x y z x' y' z' f j) = Fj sd x y z x' y' z' f (j + 1) := by
  unfold Fj
  rcases hO with ⟨h2, rfl, rfl⟩ | ⟨rfl, h2, rfl⟩ | ⟨rfl, rfl, h2⟩
  · rw [mv_eq (c := y) rfl, mv_eq (c := y) rfl, mv_eq (c := z) rfl, mv_eq (c := z) rfl]
    refine step_lat fun a b => ?_
    unfold Swp InS
    rw [mn_l (Int.le_refl y), mx_l (Int.le_refl y)]
    rcases Int.lt_or_gt_of_ne h2 with h | h
    · rw [mv_lt h, mv_lt h, mn_l (by omega), mx_r (by omega), mn_l (by omega), mx_r (by omega)]; omega
    · rw [mv_gt h, mv_gt h, mn_r (by omega), mx_l (by omega), mn_r (by omega), mx_l (by omega)]; omega
  · rw [mv_eq (c := x) rfl, mv_eq (c := x) rfl, mv_eq (c := z) rfl, mv_eq (c := z) rfl]
    refine step_lat fun a b => ?_
    unfold Swp InS
    rw [mn_l (Int.le_refl x), mx_l (Int.le_refl x)]
    rcases Int.lt_or_gt_of_ne h2 with h | h
    · rw [mv_lt h, mv_lt h, mn_l (by omega), mx_r (by omega), mn_l (by omega), mx_r (by omega)]; omega
    · rw [mv_gt h, mv_gt h, mn_r (by omega), mx_l (by omega), mn_r (by omega), mx_l (by omega)]; omega
  · rw [mv_eq (c := x) rfl, mv_eq (c := x) rfl, mv_eq (c := y) rfl, mv_eq (c := y) rfl]
    refine step_up ?_
    rcases Int.lt_or_gt_of_ne h2 with h | h
    · rw [mv_lt h, mv_lt h]; omega
    · rw [mv_gt h, mv_gt h]; omega
end
end PV.K43
set_option maxRecDepth 100000
set_option maxHeartbeats 400000
namespace PV.K43
open PySem PV
section
variable {n : Nat} {s : Sto} {sd sh rm x y z x' y' z' : Int} {f : Int → Int → Int} {W H : Nat} {k : Bool}
/-! ### the law's own stroke -/
def bStk : Sms := (.c (.asg (.nm 4) (.bin .add (.bin .add (.slc (.var 4) .n (.s (.var 6))) (.tup (.c (.bin .add (.idx (.var 4) (.var 6)) (.var 7)) .nil))) (.slc (.var 4) (.s (.bin .add (.var 6) (.int 1))) .n))) (.c (.ite (.bop false (.c (.bop true (.c (.cmp .eq (.var 3) (.str "fast")) (.c (.not (.call 4 (.c (.var 0) (.c (.var 2) (.c (.var 4) .nil))))) .nil))) (.c (.not (.call 5 (.c (.var 0) (.c (.var 2) (.c (.var 4) .nil))))) .nil))) (.c (.ret (.tup (.c (.var 8) (.c (.var 0) .nil)))) .nil) .nil) (.c (.asg (.nm 0) (.call 6 (.c (.var 0) (.c (.var 2) (.c (.var 4) .nil))))) .nil)))
def EL (W H : Nat) (F : Int → Int → Int) (T : D) (k : Bool) (p q : D) (ax dr : Int) (st : Option SV) : Env :=
  [some (.val (bD W H F)), some (.val (.tup [.int W, .int H])), some (.val T), some (.val (kindD k)), some (.val p), some (.val q), some (.val (.int ax)), some (.val (.int dr)), st, none]
structure Setup (sd sh rm : Int) (W H : Nat) : Prop where
  sd : 1 ≤ sd ∧ sd ≤ 3
  sh : 1 ≤ sh ∧ sh ≤ 4
  rm : 0 ≤ rm ∧ rm ≤ 1
  W : 0 < W ∧ W ≤ 10
  H : 0 < H ∧ H ≤ 10
instance : Decidable (viol k sd sh rm x y z x' y' z' f W H j) := inferInstanceAs (Decidable (_ ∨ _))
theorem stroke_turn {nm : D} {ax dr j : Int} {q : D} {st : Option SV} (S : Setup sd sh rm W H) (hO : One x y z x' y' z') (hj : 0 ≤ j) (hfit : Fit sd W H (mv x x' (j + 1)) (mv y y' (j + 1))) (hn : 2 ≤ n)
    (hs : binD .add (.int (if ax = 0 then mv x x' j else if ax = 1 then mv y y' j else mv z z' j)) (.int dr) = some (.int (if ax = 0 then mv x x' (j + 1) else if ax = 1 then mv y y' (j + 1) else mv z z' (j + 1))))
    (hax : (ax = 0 ∧ y = y' ∧ z = z') ∨ (ax = 1 ∧ x = x' ∧ z = z') ∨ (ax = 2 ∧ x = x' ∧ y = y')) :
    stepF (callF fs gs n) gs (.nm 8) bStk (.int j) (EL W H (Fj sd x y z x' y' z' f j) (.tup [nm, .int sd, .int sh, .int rm]) k (ptD (mv x x' j) (mv y y' j) (mv z z' j)) q ax dr st) s
      = if viol k sd sh rm x y z x' y' z' f W H j then .ok (.ret (.tup [.int j, bD W H (Fj sd x y z x' y' z' f j)])) s else .ok (.nx (EL W H (Fj sd x y z x' y' z' f (j + 1)) (.tup [nm, .int sd, .int sh, .int rm]) k (ptD (mv x x' (j + 1)) (mv y y' (j + 1)) (mv z z' (j + 1))) q ax dr (some (.val (.int j))))) s := by
  have e1 := e_free (n := n) (s := s) (f := Fj sd x y z x' y' z' f j) (nm := nm) (sh := sh) (rm := rm) (x := mv x x' (j + 1)) (y := mv y y' (j + 1)) (z := mv z z' (j + 1)) (W := W) (H := H) (sd := sd) ⟨by have := S.sd; omega, S.sd.2⟩ hfit.1 hfit.2 S.W S.H hn
  have e2 := e_shank (n := n) (s := s) (f := Fj sd x y z x' y' z' f j) (nm := nm) (sh := sh) (rm := rm) (x := mv x x' (j + 1)) (y := mv y y' (j + 1)) (z := mv z z' (j + 1)) (W := W) (H := H) (sd := sd) ⟨by have := S.sd; omega, S.sd.2⟩ S.rm hfit.1 hfit.2 S.W S.H hn
  have e3 := e_cut (n := n) (s := s) (f := Fj sd x y z x' y' z' f j) (nm := nm) (sd := sd) (sh := sh) (rm := rm) (x := mv x x' (j + 1)) (y := mv y y' (j + 1)) (z := mv z z' (j + 1)) S.W.2 S.H.2 (by omega)
  rw [Fj_step S.sd.1 hO hj] at e3
  have m1 := mv_s x x' j
  have m2 := mv_s y y' j
  have m3 := mv_s z z' j
  have k1 := mv_s x x' (j + 1)
  have k2 := mv_s y y' (j + 1)
  have k3 := mv_s z z' (j + 1)
  have hmove : ∀ env : Env, env[4]? = some (some (.val (ptD (mv x x' j) (mv y y' j) (mv z z' j)))) → env[6]? = some (some (.val (.int ax))) → env[7]? = some (some (.val (.int dr))) →
      ev (callF fs gs n) gs false (.bin .add (.bin .add (.slc (.var 4) .n (.s (.var 6))) (.tup (.c (.bin .add (.idx (.var 4) (.var 6)) (.var 7)) .nil))) (.slc (.var 4) (.s (.bin .add (.var 6) (.int 1))) .n)) env s = .ok (ptD (mv x x' (j + 1)) (mv y y' (j + 1)) (mv z z' (j + 1))) s := by
    intro env h4 h6 h7
    rcases hax with ⟨rfl, hy, hz⟩ | ⟨rfl, hx, hz⟩ | ⟨rfl, hx, hy⟩
    · have a1 : mv y y' (j + 1) = mv y y' j := by omega
      have a2 : mv z z' (j + 1) = mv z z' j := by omega
      simp at hs
      simp [h4, h6, h7, ptD, LINE, hs, a1, a2]
    · have a1 : mv x x' (j + 1) = mv x x' j := by omega
      have a2 : mv z z' (j + 1) = mv z z' j := by omega
      simp at hs
      simp [h4, h6, h7, ptD, LINE, hs, a1, a2]
    · have a1 : mv x x' (j + 1) = mv x x' j := by omega
      have a2 : mv y y' (j + 1) = mv y y' j := by omega
      simp at hs
      simp [h4, h6, h7, ptD, LINE, hs, a1, a2]
  have e4 := hmove (EL W H (Fj sd x y z x' y' z' f j) (.tup [nm, .int sd, .int sh, .int rm]) k (ptD (mv x x' j) (mv y y' j) (mv z z' j)) q ax dr (some (.val (.int j)))) rfl rfl rfl
  have hv : viol k sd sh rm x y z x' y' z' f W H j ↔ ((k = true ∧ ¬ gr (Fj sd x y z x' y' z' f j) (benF sd (mv x x' (j + 1)) (mv y y' (j + 1))) ≤ mv z z' (j + 1)) ∨
    ¬ gr (Fj sd x y z x' y' z' f j) (benF sd (mv x x' (j + 1)) (mv y y' (j + 1)) ++ abF sd rm (mv x x' (j + 1)) (mv y y' (j + 1)) W H) ≤ mv z z' (j + 1) + sh) := Iff.rfl
  generalize hP : ptD (mv x x' (j + 1)) (mv y y' (j + 1)) (mv z z' (j + 1)) = P at *
  generalize hB : Fj sd x y z x' y' z' f j = B at *
  generalize hB1 : Fj sd x y z x' y' z' f (j + 1) = B1 at *
  generalize gr B (benF sd (mv x x' (j + 1)) (mv y y' (j + 1))) = g1 at *
  generalize gr B (benF sd (mv x x' (j + 1)) (mv y y' (j + 1)) ++ abF sd rm (mv x x' (j + 1)) (mv y y' (j + 1)) W H) = g2 at *
  have eb : bindT (.nm 8) (.int j) (EL W H B (.tup [nm, .int sd, .int sh, .int rm]) k (ptD (mv x x' j) (mv y y' j) (mv z z' j)) q ax dr st) = some (EL W H B (.tup [nm, .int sd, .int sh, .int rm]) k (ptD (mv x x' j) (mv y y' j) (mv z z' j)) q ax dr (some (.val (.int j)))) := rfl
  unfold stepF
  simp only [eb, bStk, execs_c, exec_asg, e4, ok_bind]
  cases k with
  | true =>
    by_cases c1 : g1 ≤ mv z z' (j + 1)
    · by_cases c2 : g2 ≤ mv z z' (j + 1) + sh
      · rw [if_neg (fun q => by rcases hv.mp q with q | q; exact q.2 c1; exact q c2)]
        simp [EL, e1, e2, e3, kind_eq, borrows, isOwn, c1, c2]
      · rw [if_pos (hv.mpr (.inr c2))]
        simp [EL, e1, e2, e3, kind_eq, borrows, isOwn, c1, c2, frzR]
    · rw [if_pos (hv.mpr (.inl ⟨rfl, c1⟩))]
      simp [EL, e1, e2, e3, kind_eq, borrows, isOwn, c1, frzR]
  | false =>
    by_cases c2 : g2 ≤ mv z z' (j + 1) + sh
    · rw [if_neg (fun q => by rcases hv.mp q with q | q; cases q.1; exact q c2)]
      simp [EL, e1, e2, e3, kind_eq, borrows, isOwn, c2]
    · rw [if_pos (hv.mpr (.inr c2))]
      simp [EL, e1, e2, e3, kind_eq, borrows, isOwn, c2, frzR]
/-- the loop, from step j on -/
theorem stroke_loop {nm : D} {ax dr N : Int} {q : D} (S : Setup sd sh rm W H) (hO : One x y z x' y' z') (hfit : ∀ j, 0 ≤ j → j < N → Fit sd W H (mv x x' (j + 1)) (mv y y' (j + 1))) (hn : 2 ≤ n)
    (hs : ∀ j, 0 ≤ j → binD .add (.int (if ax = 0 then mv x x' j else if ax = 1 then mv y y' j else mv z z' j)) (.int dr) = some (.int (if ax = 0 then mv x x' (j + 1) else if ax = 1 then mv y y' (j + 1) else mv z z' (j + 1))))
    (hax : (ax = 0 ∧ y = y' ∧ z = z') ∨ (ax = 1 ∧ x = x' ∧ z = z') ∨ (ax = 2 ∧ x = x' ∧ y = y')) :
    ∀ (t : Nat) (j : Int) (st : Option SV), 0 ≤ j → j + t = N → (∀ i, 0 ≤ i → i < j → ¬ viol k sd sh rm x y z x' y' z' f W H i) →
      (∃ j2, (0 ≤ j2 ∧ j2 < N) ∧ viol k sd sh rm x y z x' y' z' f W H j2 ∧ (∀ i, 0 ≤ i → i < j2 → ¬ viol k sd sh rm x y z x' y' z' f W H i) ∧
          forF (stepF (callF fs gs n) gs (.nm 8) bStk) ((ir j N).map D.int) (EL W H (Fj sd x y z x' y' z' f j) (.tup [nm, .int sd, .int sh, .int rm]) k (ptD (mv x x' j) (mv y y' j) (mv z z' j)) q ax dr st) s = .ok (.ret (.tup [.int j2, bD W H (Fj sd x y z x' y' z' f j2)])) s) ∨
      ((∀ i, 0 ≤ i → i < N → ¬ viol k sd sh rm x y z x' y' z' f W H i) ∧ ∃ st', forF (stepF (callF fs gs n) gs (.nm 8) bStk) ((ir j N).map D.int) (EL W H (Fj sd x y z x' y' z' f j) (.tup [nm, .int sd, .int sh, .int rm]) k (ptD (mv x x' j) (mv y y' j) (mv z z' j)) q ax dr st) s
          = .ok (.nx (EL W H (Fj sd x y z x' y' z' f N) (.tup [nm, .int sd, .int sh, .int rm]) k (ptD (mv x x' N) (mv y y' N) (mv z z' N)) q ax dr st')) s)
  | 0, j, st, hj, he, no => by
    have e : j = N := by omega
    subst e
    right
    exact ⟨no, st, by rw [ir_nil (Int.le_refl _)]; rfl⟩
  | t + 1, j, st, hj, he, no => by
    have hlt : j < N := by omega
    have e1 := stroke_turn (n := n) (s := s) (nm := nm) (q := q) (st := st) (k := k) (f := f) S hO hj (hfit j hj hlt) hn (hs j hj) hax
    rw [ir_cons hlt, List.map_cons, forF_cons, e1]
    by_cases c : viol k sd sh rm x y z x' y' z' f W H j
    · left
      exact ⟨j, ⟨hj, hlt⟩, c, no, by rw [if_pos c]; rfl⟩
    · rw [if_neg c, nextL_nx]
      exact stroke_loop S hO hfit hn hs hax t (j + 1) (some (.val (.int j))) (by omega) (by omega) fun i h1 h2 => by
        by_cases q2 : i = j
        · rw [q2]; exact c
        · exact no i h1 (by omega)
end
end PV.K43
set_option maxRecDepth 100000
set_option maxHeartbeats 1000000
namespace PV.K43
open PySem PV
section
variable {n : Nat} {s : Sto} {sd sh rm x y z x' y' z' : Int} {f : Int → Int → Int} {W H : Nat} {k : Bool}
theorem first_eq {V vi : Int → Prop} {R : Option Int} {N : Int} (hA : ∀ j, 0 ≤ j → j < N → (∀ i, 0 ≤ i → i < j → ¬ V i) → (vi j ↔ V j)) (hB1 : ∀ k, R = some k → (0 ≤ k ∧ k < N) ∧ V k) (hB2 : ∀ j, 0 ≤ j → j < N → V j → ∃ k, R = some k ∧ k ≤ j) :
    (∀ j, 0 ≤ j → j < N → vi j → (∀ i, 0 ≤ i → i < j → ¬ vi i) → R = some j) ∧ ((∀ j, 0 ≤ j → j < N → ¬ vi j) → R = none) := by
  have noV : ∀ (t : Nat) (j : Int), j = t → j ≤ N → (∀ i, 0 ≤ i → i < j → ¬ vi i) → ∀ i, 0 ≤ i → i < j → ¬ V i := by
    intro t
    induction t with
    | zero => intro j e _ _ i h1 h2; omega
    | succ t ih =>
      intro j e hN no i h1 h2
      have prev := ih t rfl (by omega) fun i h1 h2 => no i h1 (by omega)
      by_cases q : i = t
      · subst q
        exact fun v => no _ h1 h2 ((hA _ h1 (by omega) prev).mpr v)
      · exact prev i h1 (by omega)
  constructor
  · intro j h1 h2 hv no
    have prev := noV j.toNat j (by omega) (by omega) no
    obtain ⟨k, e, hk⟩ := hB2 j h1 h2 ((hA j h1 h2 prev).mp hv)
    obtain ⟨h3, h4⟩ := hB1 k e
    by_cases q : k = j
    · rw [e, q]
    · exact absurd h4 (prev k h3.1 (by omega))
  · intro no
    cases e : R with
    | none => rfl
    | some k =>
      obtain ⟨h3, h4⟩ := hB1 k e
      exact absurd h4 (noV N.toNat N (by omega) (Int.le_refl _) (fun i a b => no i a b) k h3.1 h3.2)
def strikeO (k : Bool) (sd sh rm x y z x' y' z' : Int) (f : Int → Int → Int) (W H : Nat) : Option Int := if axisI x y z x' y' z' < 2 then lvO k (axisI x y z x' y' z') sd sh rm x y z x' y' f W H else upO k sd sh rm x y z z' f W H
def steps (x y z x' y' z' : Int) : Int := absI (x' - x) + absI (y' - y) + absI (z' - z)
/-- where tool and places lie -/
structure Lie (sd sh rm x y z x' y' z' : Int) (f : Int → Int → Int) (W H : Nat) : Prop where
  S : Setup sd sh rm W H
  O : One x y z x' y' z'
  hp : Fit sd W H x y
  hq : Fit sd W H x' y'
  hz : 0 ≤ z ∧ z ≤ 1000
  hz' : 0 ≤ z' ∧ z' ≤ 1000
  hc : ∀ a b, InS sd x y a b → f a b ≤ z
  hs : ∀ p ∈ abF sd rm x y W H, f p.1 p.2 ≤ z + sh
theorem Lie.fit (L : Lie sd sh rm x y z x' y' z' f W H) {j : Int} (h0 : 0 ≤ j) (h1 : j < steps x y z x' y' z') : Fit sd W H (mv x x' (j + 1)) (mv y y' (j + 1)) := by
  have hp := L.hp
  have hq := L.hq
  unfold Fit at *
  unfold steps at h1
  have e0 : ∀ c : Int, absI (c - c) = 0 := fun c => by rw [absI_p (by omega)]; omega
  rcases L.O with ⟨h2, h3, h4⟩ | ⟨h2, h3, h4⟩ | ⟨h2, h3, h4⟩
  · rw [mv_eq h3]
    subst h3 h4
    rw [e0, e0] at h1
    rcases Int.lt_or_gt_of_ne h2 with h | h
    · rw [mv_lt h]; rw [absI_p (by omega)] at h1; omega
    · rw [mv_gt h]; rw [absI_n (by omega)] at h1; omega
  · rw [mv_eq h2]
    subst h2 h4
    rw [e0, e0] at h1
    rcases Int.lt_or_gt_of_ne h3 with h | h
    · rw [mv_lt h]; rw [absI_p (by omega)] at h1; omega
    · rw [mv_gt h]; rw [absI_n (by omega)] at h1; omega
  · rw [mv_eq h2, mv_eq h3]; exact hp
theorem Lie.due (L : Lie sd sh rm x y z x' y' z' f W H) :
    (∀ j, 0 ≤ j → j < steps x y z x' y' z' → viol k sd sh rm x y z x' y' z' f W H j → (∀ i, 0 ≤ i → i < j → ¬ viol k sd sh rm x y z x' y' z' f W H i) → strikeO k sd sh rm x y z x' y' z' f W H = some j) ∧
      ((∀ j, 0 ≤ j → j < steps x y z x' y' z' → ¬ viol k sd sh rm x y z x' y' z' f W H j) → strikeO k sd sh rm x y z x' y' z' f W H = none) := by
  have e0 : ∀ c : Int, absI (c - c) = 0 := fun c => by rw [absI_p (by omega)]; omega
  have lev : (x ≠ x' ∧ y = y' ∧ z = z') ∨ (x = x' ∧ y ≠ y' ∧ z = z') → _ := fun hO => by
    have hz : z = z' := by rcases hO with h | h <;> exact h.2.2
    have hax : (axisI x y z x' y' z' = 0 ∧ x ≠ x' ∧ y = y') ∨ (axisI x y z x' y' z' = 1 ∧ x = x' ∧ y ≠ y') := by
      unfold axisI
      rcases hO with h | h
      · left; exact ⟨if_pos h.1, h.1, h.2.1⟩
      · right; exact ⟨by rw [if_neg (by simpa using h.1), if_pos h.2.1], h.1, h.2.1⟩
    have hlt : axisI x y z x' y' z' < 2 := by rcases hax with h | h <;> rw [h.1] <;> decide
    have eN : steps x y z x' y' z' = absI (x' - x) + absI (y' - y) := by unfold steps; rw [← hz, e0]; omega
    exact first_eq (V := fun j => VL k sd sh rm z f W H (mv x x' (j + 1)) (mv y y' (j + 1))) (vi := viol k sd sh rm x y z x' y' z' f W H) (R := strikeO k sd sh rm x y z x' y' z' f W H) (N := steps x y z x' y' z')
      (fun j h1 h2 prev => viol_level L.S.sd.1 L.S.sh.1 L.S.rm.1 hz L.hz.1 L.O h1 (L.fit h1 h2) L.hc prev)
      (fun i h => by
        unfold strikeO at h
        rw [if_pos hlt] at h
        rw [eN]
        exact lv_1 hax h)
      (fun j h1 h2 hv => by
        unfold strikeO
        rw [if_pos hlt]
        exact lv_2 hax ⟨h1, by rw [← eN]; exact h2⟩ hv)
  rcases L.O with hO | hO | hO
  · exact lev (.inl hO)
  · exact lev (.inr hO)
  · obtain ⟨hx, hy, hz⟩ := hO
    have hax : ¬ axisI x y z x' y' z' < 2 := by
      unfold axisI
      rw [if_neg (by simpa using hx), if_neg (by simpa using hy)]
      decide
    have eN : steps x y z x' y' z' = absI (z' - z) := by unfold steps; rw [← hx, ← hy, e0, e0]; omega
    exact first_eq (V := fun j => VU k sd sh rm x y f W H (mv z z' (j + 1))) (vi := viol k sd sh rm x y z x' y' z' f W H) (R := strikeO k sd sh rm x y z x' y' z' f W H) (N := steps x y z x' y' z')
      (fun j h1 h2 prev => viol_up L.S.sh.1 hx hy hz ⟨L.hz.1, L.hz'.1⟩ ⟨h1, by rw [← eN]; exact h2⟩ L.hc)
      (fun i h => by
        unfold strikeO at h
        rw [if_neg hax] at h
        rw [eN]
        exact up_1 hz ⟨L.hz.1, L.hz'.1⟩ L.S.sh.1 L.hc L.hs h)
      (fun j h1 h2 hv => by
        unfold strikeO
        rw [if_neg hax]
        exact up_2 hz ⟨L.hz.1, L.hz'.1⟩ L.S.sh.1 L.hc L.hs ⟨h1, by rw [← eN]; exact h2⟩ hv)
/-! ### the stroke, run -/
def iStk : Src := .rg1 (.blt .abs (.c (.bin .sub (.idx (.var 5) (.var 6)) (.idx (.var 4) (.var 6))) .nil))
theorem stroke_for {nm : D} {ax dr : Int} (L : Lie sd sh rm x y z x' y' z' f W H) (hn : 2 ≤ n)
    (hs : ∀ j, 0 ≤ j → binD .add (.int (if ax = 0 then mv x x' j else if ax = 1 then mv y y' j else mv z z' j)) (.int dr) = some (.int (if ax = 0 then mv x x' (j + 1) else if ax = 1 then mv y y' (j + 1) else mv z z' (j + 1))))
    (hax : (ax = 0 ∧ y = y' ∧ z = z') ∨ (ax = 1 ∧ x = x' ∧ z = z') ∨ (ax = 2 ∧ x = x' ∧ y = y')) (hN : -1000000 ≤ steps x y z x' y' z' ∧ steps x y z x' y' z' ≤ 1000000)
    (hv : evI (callF fs gs n) gs false iStk (EL W H f (.tup [nm, .int sd, .int sh, .int rm]) k (ptD x y z) (ptD x' y' z') ax dr none) s = lift (rng1? (.int (steps x y z x' y' z'))) s) :
    (∃ B, exec (callF fs gs n) gs (.for (.nm 8) iStk bStk) (EL W H f (.tup [nm, .int sd, .int sh, .int rm]) k (ptD x y z) (ptD x' y' z') ax dr none) s = .ok (.ret (.tup [oD (strikeO k sd sh rm x y z x' y' z' f W H), B])) s ∧ ∃ j, strikeO k sd sh rm x y z x' y' z' f W H = some j) ∨
      (strikeO k sd sh rm x y z x' y' z' f W H = none ∧ ∃ p st', exec (callF fs gs n) gs (.for (.nm 8) iStk bStk) (EL W H f (.tup [nm, .int sd, .int sh, .int rm]) k (ptD x y z) (ptD x' y' z') ax dr none) s = .ok (.nx (EL W H (behf sd x y z x' y' z' f) (.tup [nm, .int sd, .int sh, .int rm]) k p (ptD x' y' z') ax dr st')) s) := by
  have d := L.due (k := k)
  have h0 : 0 ≤ steps x y z x' y' z' := by unfold steps absI; split <;> split <;> split <;> omega
  have lp := stroke_loop (n := n) (s := s) (nm := nm) (q := ptD x' y' z') (k := k) (f := f) L.S L.O (N := steps x y z x' y' z') (fun j a b => L.fit a b) hn hs hax (steps x y z x' y' z').toNat 0 none (Int.le_refl _) (by omega) (fun i a b => by omega)
  rw [Fj_0 L.hc, mv_0, mv_0, mv_0] at lp
  rw [exec_for]
  have e4 : frzI (EL W H f (.tup [nm, .int sd, .int sh, .int rm]) k (ptD x y z) (ptD x' y' z') ax dr none) iStk = EL W H f (.tup [nm, .int sd, .int sh, .int rm]) k (ptD x y z) (ptD x' y' z') ax dr none := rfl
  rw [e4, hv, rng1_ir hN, lift_some, ok_bind]
  rcases lp with ⟨j, hj, v, no, e⟩ | ⟨no, st', e⟩
  · left
    have := d.1 j hj.1 hj.2 v no
    rw [this]
    exact ⟨_, e, j, rfl⟩
  · right
    have eN : Fj sd x y z x' y' z' f (steps x y z x' y' z') = behf sd x y z x' y' z' f := Fj_N L.O
    rw [eN] at e
    exact ⟨d.2 no, _, st', e⟩
def s6 : Sm := .asg (.nm 6) (.idx (.fz (.cp1 (.var 9) (.nm 9) (.seq (.tup (.c (.int 0) (.c (.int 1) (.c (.int 2) .nil))))) (.s (.cmp .ne (.idx (.var 4) (.var 9)) (.idx (.var 5) (.var 9)))) [9])) (.int 0))
def s7 : Sm := .asg (.nm 7) (.ite (.cmp .gt (.idx (.var 5) (.var 6)) (.idx (.var 4) (.var 6))) (.int 1) (.neg (.int 1)))
def StrokeP (k : Bool) (sd sh rm x y z x' y' z' : Int) (f : Int → Int → Int) (W H : Nat) (s : Sto) (R : Out D) : Prop :=
  (∃ B, R = .ok (.tup [oD (strikeO k sd sh rm x y z x' y' z' f W H), B]) s ∧ ∃ j, strikeO k sd sh rm x y z x' y' z' f W H = some j) ∨
      (strikeO k sd sh rm x y z x' y' z' f W H = none ∧ R = .ok (.tup [.non, bD W H (behf sd x y z x' y' z' f)]) s)
theorem e_stroke {nm : D} (L : Lie sd sh rm x y z x' y' z' f W H) (hn : 3 ≤ n) :
    StrokeP k sd sh rm x y z x' y' z' f W H s (callF fs gs n 26 [bD W H f, .tup [.int W, .int H], .tup [nm, .int sd, .int sh, .int rm], kindD k, ptD x y z, ptD x' y' z'] s) := by
  obtain ⟨m, rfl, hm⟩ := sc hn
  rw [call_at (f := c__law_stroke) rfl rfl]
  have e0 : ∀ c : Int, absI (c - c) = 0 := fun c => by rw [absI_p (by omega)]; omega
  have hp := L.hp
  have hq := L.hq
  have hz := L.hz
  have hz' := L.hz'
  have hW := L.S.W
  have hH := L.S.H
  have hS := L.S.sd
  unfold Fit at hp hq
  have hN : -1000000 ≤ steps x y z x' y' z' ∧ steps x y z x' y' z' ≤ 1000000 := by
    unfold steps absI; split <;> split <;> split <;> omega
  have fin : ∀ ax dr : Int, ((ax = 0 ∧ y = y' ∧ z = z') ∨ (ax = 1 ∧ x = x' ∧ z = z') ∨ (ax = 2 ∧ x = x' ∧ y = y')) → (∀ j, 0 ≤ j → binD .add (.int (if ax = 0 then mv x x' j else if ax = 1 then mv y y' j else mv z z' j)) (.int dr) = some (.int (if ax = 0 then mv x x' (j + 1) else if ax = 1 then mv y y' (j + 1) else mv z z' (j + 1)))) →
      evI (callF fs gs m) gs false iStk (EL W H f (.tup [nm, .int sd, .int sh, .int rm]) k (ptD x y z) (ptD x' y' z') ax dr none) s = lift (rng1? (.int (steps x y z x' y' z'))) s →
      retOf (execs (callF fs gs m) gs c__law_stroke.body (startE c__law_stroke.N.length [bD W H f, .tup [.int W, .int H], .tup [nm, .int sd, .int sh, .int rm], kindD k, ptD x y z, ptD x' y' z']) s) = retOf (nextF (exec (callF fs gs m) gs (.for (.nm 8) iStk bStk) (EL W H f (.tup [nm, .int sd, .int sh, .int rm]) k (ptD x y z) (ptD x' y' z') ax dr none) s) (execs (callF fs gs m) gs (.c (.ret (.tup (.c .non (.c (.var 0) .nil)))) .nil))) →
      StrokeP k sd sh rm x y z x' y' z' f W H s (retOf (execs (callF fs gs m) gs c__law_stroke.body (startE c__law_stroke.N.length [bD W H f, .tup [.int W, .int H], .tup [nm, .int sd, .int sh, .int rm], kindD k, ptD x y z, ptD x' y' z']) s)) := fun ax dr hax hs hv he => by
    rw [he]
    rcases stroke_for (n := m) (s := s) (nm := nm) (k := k) L hm hs hax hN hv with ⟨B, e, hj⟩ | ⟨e1, p, st', e⟩
    · left
      exact ⟨B, by rw [e]; rfl, hj⟩
    · right
      refine ⟨e1, ?_⟩
      rw [e]
      simp [EL, frzR]
  have go : ∀ ax dr : Int, exec (callF fs gs m) gs s6 [some (SV.val (bD W H f)), some (.val (.tup [.int W, .int H])), some (.val (.tup [nm, .int sd, .int sh, .int rm])), some (.val (kindD k)), some (.val (ptD x y z)), some (.val (ptD x' y' z')), none, none, none, none] s
        = .ok (.nx [some (SV.val (bD W H f)), some (.val (.tup [.int W, .int H])), some (.val (.tup [nm, .int sd, .int sh, .int rm])), some (.val (kindD k)), some (.val (ptD x y z)), some (.val (ptD x' y' z')), some (.val (.int ax)), none, none, none]) s →
      exec (callF fs gs m) gs s7 [some (SV.val (bD W H f)), some (.val (.tup [.int W, .int H])), some (.val (.tup [nm, .int sd, .int sh, .int rm])), some (.val (kindD k)), some (.val (ptD x y z)), some (.val (ptD x' y' z')), some (.val (.int ax)), none, none, none] s
        = .ok (.nx [some (SV.val (bD W H f)), some (.val (.tup [.int W, .int H])), some (.val (.tup [nm, .int sd, .int sh, .int rm])), some (.val (kindD k)), some (.val (ptD x y z)), some (.val (ptD x' y' z')), some (.val (.int ax)), some (.val (.int dr)), none, none]) s →
      retOf (execs (callF fs gs m) gs c__law_stroke.body (startE c__law_stroke.N.length [bD W H f, .tup [.int W, .int H], .tup [nm, .int sd, .int sh, .int rm], kindD k, ptD x y z, ptD x' y' z']) s) = retOf (nextF (exec (callF fs gs m) gs (.for (.nm 8) iStk bStk) (EL W H f (.tup [nm, .int sd, .int sh, .int rm]) k (ptD x y z) (ptD x' y' z') ax dr none) s) (execs (callF fs gs m) gs (.c (.ret (.tup (.c .non (.c (.var 0) .nil)))) .nil))) := by
    intro ax dr e6 e7
    have eb : c__law_stroke.body = .c s6 (.c s7 (.c (.for (.nm 8) iStk bStk) (.c (.ret (.tup (.c .non (.c (.var 0) .nil)))) .nil))) := rfl
    have es : startE c__law_stroke.N.length [bD W H f, .tup [.int W, .int H], .tup [nm, .int sd, .int sh, .int rm], kindD k, ptD x y z, ptD x' y' z'] = [some (SV.val (bD W H f)), some (.val (.tup [.int W, .int H])), some (.val (.tup [nm, .int sd, .int sh, .int rm])), some (.val (kindD k)), some (.val (ptD x y z)), some (.val (ptD x' y' z')), none, none, none, none] := rfl
    rw [eb, es, execs_c, e6, nextF_nx, execs_c, e7, nextF_nx, execs_c]
    rfl
  rcases L.O with ⟨h1, h2, h3⟩ | ⟨h1, h2, h3⟩ | ⟨h1, h2, h3⟩
  · have eN : steps x y z x' y' z' = absI (x' - x) := by unfold steps; rw [← h2, ← h3, e0, e0]; omega
    have e6 : ∀ t, t = (0 : Int) → exec (callF fs gs m) gs s6 [some (SV.val (bD W H f)), some (.val (.tup [.int W, .int H])), some (.val (.tup [nm, .int sd, .int sh, .int rm])), some (.val (kindD k)), some (.val (ptD x y z)), some (.val (ptD x' y' z')), none, none, none, none] s
        = .ok (.nx [some (SV.val (bD W H f)), some (.val (.tup [.int W, .int H])), some (.val (.tup [nm, .int sd, .int sh, .int rm])), some (.val (kindD k)), some (.val (ptD x y z)), some (.val (ptD x' y' z')), some (.val (.int t)), none, none, none]) s := by
      rintro t rfl
      simp [s6, evF_cp1', turn1, items?, noOwn, wipeE, ptD, LINE, h1, h2, h3]
    have hv : ∀ dr : Int, evI (callF fs gs m) gs false iStk (EL W H f (.tup [nm, .int sd, .int sh, .int rm]) k (ptD x y z) (ptD x' y' z') 0 dr none) s = lift (rng1? (.int (steps x y z x' y' z'))) s := fun dr => by
      rw [eN]; simp [iStk, EL, ptD, absI]
    rcases Int.lt_or_gt_of_ne h1 with h | h
    · exact fin 0 1 (.inl ⟨rfl, h2, h3⟩) (fun j hj => by simp [mv_lt h]; omega) (hv 1) (go 0 1 (e6 0 rfl) (by simp [s7, ptD, h]))
    · have h' : ¬ x < x' := by omega
      exact fin 0 (-1) (.inl ⟨rfl, h2, h3⟩) (fun j hj => by simp [mv_gt h]; omega) (hv (-1)) (go 0 (-1) (e6 0 rfl) (by simp [s7, ptD, h']))
  · have eN : steps x y z x' y' z' = absI (y' - y) := by unfold steps; rw [← h1, ← h3, e0, e0]; omega
    have e6 : ∀ t, t = (1 : Int) → exec (callF fs gs m) gs s6 [some (SV.val (bD W H f)), some (.val (.tup [.int W, .int H])), some (.val (.tup [nm, .int sd, .int sh, .int rm])), some (.val (kindD k)), some (.val (ptD x y z)), some (.val (ptD x' y' z')), none, none, none, none] s
        = .ok (.nx [some (SV.val (bD W H f)), some (.val (.tup [.int W, .int H])), some (.val (.tup [nm, .int sd, .int sh, .int rm])), some (.val (kindD k)), some (.val (ptD x y z)), some (.val (ptD x' y' z')), some (.val (.int t)), none, none, none]) s := by
      rintro t rfl
      simp [s6, evF_cp1', turn1, items?, noOwn, wipeE, ptD, LINE, h1, h2, h3]
    have hv : ∀ dr : Int, evI (callF fs gs m) gs false iStk (EL W H f (.tup [nm, .int sd, .int sh, .int rm]) k (ptD x y z) (ptD x' y' z') 1 dr none) s = lift (rng1? (.int (steps x y z x' y' z'))) s := fun dr => by
      rw [eN]; simp [iStk, EL, ptD, absI]
    rcases Int.lt_or_gt_of_ne h2 with h | h
    · exact fin 1 1 (.inr (.inl ⟨rfl, h1, h3⟩)) (fun j hj => by simp [mv_lt h]; omega) (hv 1) (go 1 1 (e6 1 rfl) (by simp [s7, ptD, h]))
    · have h' : ¬ y < y' := by omega
      exact fin 1 (-1) (.inr (.inl ⟨rfl, h1, h3⟩)) (fun j hj => by simp [mv_gt h]; omega) (hv (-1)) (go 1 (-1) (e6 1 rfl) (by simp [s7, ptD, h']))
  · have eN : steps x y z x' y' z' = absI (z' - z) := by unfold steps; rw [← h1, ← h2, e0, e0]; omega
    have e6 : ∀ t, t = (2 : Int) → exec (callF fs gs m) gs s6 [some (SV.val (bD W H f)), some (.val (.tup [.int W, .int H])), some (.val (.tup [nm, .int sd, .int sh, .int rm])), some (.val (kindD k)), some (.val (ptD x y z)), some (.val (ptD x' y' z')), none, none, none, none] s
        = .ok (.nx [some (SV.val (bD W H f)), some (.val (.tup [.int W, .int H])), some (.val (.tup [nm, .int sd, .int sh, .int rm])), some (.val (kindD k)), some (.val (ptD x y z)), some (.val (ptD x' y' z')), some (.val (.int t)), none, none, none]) s := by
      rintro t rfl
      simp [s6, evF_cp1', turn1, items?, noOwn, wipeE, ptD, LINE, h1, h2, h3]
    have hv : ∀ dr : Int, evI (callF fs gs m) gs false iStk (EL W H f (.tup [nm, .int sd, .int sh, .int rm]) k (ptD x y z) (ptD x' y' z') 2 dr none) s = lift (rng1? (.int (steps x y z x' y' z'))) s := fun dr => by
      rw [eN]; simp [iStk, EL, ptD, absI]
    rcases Int.lt_or_gt_of_ne h3 with h | h
    · exact fin 2 1 (.inr (.inr ⟨rfl, h1, h2⟩)) (fun j hj => by simp [mv_lt h]; omega) (hv 1) (go 2 1 (e6 2 rfl) (by simp [s7, ptD, h]))
    · have h' : ¬ z < z' := by omega
      exact fin 2 (-1) (.inr (.inr ⟨rfl, h1, h2⟩)) (fun j hj => by simp [mv_gt h]; omega) (hv (-1)) (go 2 (-1) (e6 2 rfl) (by simp [s7, ptD, h']))
end
end PV.K43
set_option maxRecDepth 100000
set_option maxHeartbeats 1000000
namespace PV.K43
open PySem PV
def i1 : Sm := (.asg (.nm 8) (.tup (.c (.call 20 (.c (.var 1) (.c (.bin .add (.bin .sub (.idx (.var 4) (.int 0)) (.idx (.var 3) (.int 1))) (.int 1)) .nil))) (.c (.call 20 (.c (.var 1) (.c (.bin .add (.bin .sub (.idx (.var 4) (.int 1)) (.idx (.var 3) (.int 1))) (.int 1)) .nil))) .nil))))
def i2 : Sm := (.asg (.nm 9) (.blt .max (.c (.int 0) (.c (.bin .sub (.call 25 (.c (.var 6) (.c (.call 24 (.c (.var 4) (.c (.var 3) (.c (.idx (.var 8) (.int 0)) (.c (.idx (.var 8) (.int 1)) (.c (.idx (.var 3) (.int 3)) .nil)))))) .nil))) (.idx (.var 3) (.int 2))) .nil))))
def i3 : Sm := (.asg (.nm 10) (.bin .add (.var 8) (.tup (.c (.blt .min (.c (.int 12) (.c (.bin .add (.var 9) (.call 20 (.c (.var 1) (.c (.int 4) .nil)))) .nil))) .nil))))
def i4 : Sm := (.asg (.nm 11) (.call 6 (.c (.var 6) (.c (.var 3) (.c (.var 10) .nil)))))
def i5 : Sm := (.asg (.nm 12) (.call 20 (.c (.var 1) (.c (.int 3) .nil))))
def i6 : Sm := (.asg (.nm 13) (.idx (.fz (.dsp (.c (.bin .sub (.idx (.var 4) (.int 0)) (.idx (.var 3) (.int 1))) (.c (.bin .sub (.idx (.var 4) (.int 1)) (.idx (.var 3) (.int 1))) (.c (.int 12) .nil))))) (.var 12)))
def i7 : Sm := (.asg (.nm 14) (.bin .add (.bin .add (.slc (.var 10) .n (.s (.var 12))) (.tup (.c (.call 20 (.c (.var 1) (.c (.bin .add (.var 13) (.int 1)) .nil))) .nil))) (.slc (.var 10) (.s (.bin .add (.var 12) (.int 1))) .n)))
def j1 : Sm := (.asg (.nm 18) (.idx (.tup (.c (.str "fast") (.c (.str "cut") .nil))) (.call 20 (.c (.var 1) (.c (.int 2) .nil)))))
def j2 : Sm := (.asg (.tp (.c (.nm 19) (.c (.nm 20) .nil))) (.call 26 (.c (.var 11) (.c (.var 4) (.c (.var 3) (.c (.var 18) (.c (.var 10) (.c (.var 14) .nil))))))))
def j3 : Sm := (.ite (.not (.call 21 (.c (.call 16 (.c (.var 11) (.c (.var 3) (.c (.var 18) (.c (.var 10) (.c (.var 14) .nil)))))) (.c (.var 19) .nil)))) (.c (.ret (.bl false)) .nil) .nil)
def j4 : Sm := (.ite (.bop true (.c (.cmp .is (.var 19) .non) (.c (.not (.call 21 (.c (.call 11 (.c (.var 11) (.c (.var 3) (.c (.var 10) (.c (.var 14) .nil))))) (.c (.var 20) .nil)))) .nil))) (.c (.ret (.bl false)) .nil) .nil)
def j5 : Sm := (.ite (.not (.call 21 (.c (.tup (.c (.call 7 (.c (.var 10) (.c (.var 14) .nil))) (.c (.call 8 (.c (.var 10) (.c (.var 14) .nil))) .nil))) (.c (.tup (.c (.fz (.dsp (.c (.tup (.c (.var 10) (.c (.var 14) .nil))) .nil))) (.c (.blt .abs (.c (.bin .sub (.idx (.var 14) (.var 12)) (.idx (.var 10) (.var 12))) .nil)) .nil))) .nil)))) (.c (.ret (.bl false)) .nil) .nil)
def i8 : Sm := .ite (.cmp .ne (.var 14) (.var 10)) (.c j1 (.c j2 (.c j3 (.c j4 (.c j5 .nil))))) .nil
def i9 : Sm := (.asg (.nm 15) (.tup (.c (.call 20 (.c (.var 1) (.c (.bin .add (.bin .sub (.idx (.var 4) (.int 0)) (.idx (.var 3) (.int 1))) (.int 1)) .nil))) (.c (.call 20 (.c (.var 1) (.c (.bin .add (.bin .sub (.idx (.var 4) (.int 1)) (.idx (.var 3) (.int 1))) (.int 1)) .nil))) (.c (.call 20 (.c (.var 1) (.c (.int 13) .nil))) .nil)))))
def i10 : Sm := (.asg (.nm 16) (.fz (.dsp (.c (.var 10) (.c (.tup (.c (.idx (.var 15) (.int 0)) (.c (.idx (.var 10) (.int 1)) (.c (.idx (.var 10) (.int 2)) .nil)))) (.c (.tup (.c (.idx (.var 15) (.int 0)) (.c (.idx (.var 15) (.int 1)) (.c (.idx (.var 10) (.int 2)) .nil)))) (.c (.var 15) .nil)))))))
def i11 : Sm := (.asg (.nm 17) (.fz (.cp1 (.tup (.c (.idx (.var 16) (.var 21)) (.c (.idx (.var 16) (.bin .add (.var 21) (.int 1))) .nil))) (.nm 21) (.rg1 (.int 3)) (.s (.cmp .ne (.idx (.var 16) (.var 21)) (.idx (.var 16) (.bin .add (.var 21) (.int 1))))) [21])))
def i12 : Sm := (.ite (.not (.call 21 (.c (.call 7 (.c (.var 10) (.c (.var 15) .nil))) (.c (.var 17) .nil)))) (.c (.ret (.bl false)) .nil) .nil)
def bIn : Sms := (.c i1 (.c i2 (.c i3 (.c i4 (.c i5 (.c i6 (.c i7 (.c i8 (.c i9 (.c i10 (.c i11 (.c i12 .nil))))))))))))
def o1 : Sm := (.asg (.nm 3) (.idx (.call 23 (.c (.var 1) .nil)) (.int 0)))
def o2 : Sm := (.par [4, 5] (.v (.tup (.c (.bin .add (.idx (.var 3) (.int 1)) (.call 20 (.c (.var 1) (.c (.int 4) .nil)))) (.c (.bin .add (.idx (.var 3) (.int 1)) (.call 20 (.c (.var 1) (.c (.int 4) .nil)))) .nil))) (.v (.bin .add (.int 1) (.call 20 (.c (.var 1) (.c (.int 6) .nil)))) .nil)))
def o3 : Sm := (.asg (.nm 6) (.call 22 (.c (.var 1) (.c (.idx (.var 4) (.int 0)) (.c (.idx (.var 4) (.int 1)) (.c (.var 5) .nil))))))
def bOt : Sms := (.c o1 (.c o2 (.c o3 (.c (.for (.nm 7) (.rg1 (.int 4)) bIn) .nil))))
def l1 : Sm := (.asg (.nm 1) (.call 18 (.c (.var 0) .nil)))
def l3 : Sm := (.ret (.call 21 (.c (.call 7 (.c (.tup (.c (.int 0) (.c (.int 0) (.c (.int 12) .nil)))) (.c (.tup (.c (.int 2) (.c (.int 0) (.c (.int 1) .nil)))) .nil))) (.c (.fz (.dsp (.c (.tup (.c (.tup (.c (.int 0) (.c (.int 0) (.c (.int 12) .nil)))) (.c (.tup (.c (.int 2) (.c (.int 0) (.c (.int 12) .nil)))) .nil))) (.c (.tup (.c (.tup (.c (.int 2) (.c (.int 0) (.c (.int 12) .nil)))) (.c (.tup (.c (.int 2) (.c (.int 0) (.c (.int 1) .nil)))) .nil))) .nil)))) .nil))))
theorem law_body : c_law.body = .c l1 (.c (.for (.nm 2) (.rg1 (.int 8)) bOt) (.c l3 .nil)) := rfl
section
variable {n : Nat} {s : Sto} {sd sh rm x y z x' y' z' : Int} {f : Int → Int → Int} {W H : Nat} {k : Bool} {sc nm : D} {top : Int} {u2 u7 u8 u9 u10 u11 u12 u13 u14 u15 u16 u17 u18 u19 u20 u21 : Option SV}
def EI (sc T : D) (W H : Nat) (top : Int) (f : Int → Int → Int) (u2 u7 u8 u9 u10 u11 u12 u13 u14 u15 u16 u17 u18 u19 u20 u21 : Option SV) : Env :=
  [some (.val sc), some (.val (.loc 1)), u2, some (.val T), some (.val (.tup [.int W, .int H])), some (.val (.int top)), some (.val (bD W H f)), u7, u8, u9, u10, u11, u12, u13, u14, u15, u16, u17, u18, u19, u20, u21]
theorem pre_turn (S : Setup sd sh rm W H) (hW : sd ≤ W) (hH : sd ≤ H) (hf : ∀ a b : Int, (0 ≤ a ∧ a < W) → (0 ≤ b ∧ b < H) → 0 ≤ f a b ∧ f a b ≤ 6) (hb : Bx s) (hn : 5 ≤ n) :
    ∃ (px py z a v : Int) (s' : Sto) (v9 v13 : Option SV), Bx s' ∧ Fit sd W H px py ∧ (0 ≤ z ∧ z ≤ 12) ∧ (∀ p ∈ winF sd rm px py W H, f p.1 p.2 ≤ z + sh) ∧ (a = 0 ∨ a = 1 ∨ a = 2) ∧ (0 ≤ v ∧ v ≤ (if a = 0 then (W : Int) - sd else if a = 1 then (H : Int) - sd else 12)) ∧
      ∀ rest, execs (callF fs gs n) gs (.c i1 (.c i2 (.c i3 (.c i4 (.c i5 (.c i6 (.c i7 rest))))))) (EI sc (.tup [nm, .int sd, .int sh, .int rm]) W H top f u2 u7 u8 u9 u10 u11 u12 u13 u14 u15 u16 u17 u18 u19 u20 u21) s =
        execs (callF fs gs n) gs rest (EI sc (.tup [nm, .int sd, .int sh, .int rm]) W H top f u2 u7 (some (.val (.tup [.int px, .int py]))) v9 (some (.val (ptD px py z))) (some (.val (bD W H (cutf sd px py z f)))) (some (.val (.int a))) v13
          (some (.val (ptD (if a = 0 then v else px) (if a = 1 then v else py) (if a = 2 then v else z)))) u15 u16 u17 u18 u19 u20 u21) s' := by
  have hsd := S.sd
  have hsh := S.sh
  have hrm := S.rm
  have hSW := S.W
  have hSH := S.H
  obtain ⟨px, s1, e1, k1, b1⟩ := e_draw (n := n) (many := W - sd + 1) hb (by omega) (by omega)
  obtain ⟨py, s2, e2, k2, b2⟩ := e_draw (n := n) (many := H - sd + 1) b1 (by omega) (by omega)
  have ew := e_window (n := n) (s := s2) (nm := nm) (sh := .int sh) (r4 := .int rm) (sd := sd) (rm := rm) (x := px) (y := py) (W := W) (H := H) ⟨by omega, by omega⟩ hrm (by omega) (by omega) hSW.2 hSH.2 (by omega)
  have et := e_top (n := n) (s := s2) (W := W) (H := H) (f := f) (L := winF sd rm px py W H) (by omega) (fun p hp => (mem_win.mp hp).1) (by have := win_len (sd := sd) (rm := rm) (x := px) (y := py) hSW.2 hSH.2; omega)
  have hg : gr f (winF sd rm px py W H) ≤ 6 := gr_le.mpr ⟨by omega, fun p hp => (hf _ _ (mem_win.mp hp).1.1 (mem_win.mp hp).1.2).2⟩
  have hg2 := (gr_le (f := f) (L := winF sd rm px py W H) (z := gr f (winF sd rm px py W H))).mp (Int.le_refl _)
  obtain ⟨d, s3, e3, k3, b3⟩ := e_draw (n := n) (many := 4) b2 (by omega) (by omega)
  generalize hG : gr f (winF sd rm px py W H) = G at *
  have hlz := mx_s 0 (G - sh)
  have hz := mn_s 12 (mx 0 (G - sh) + d)
  have ec := e_cut (n := n) (s := s3) (W := W) (H := H) (f := f) (nm := nm) (sd := sd) (sh := sh) (rm := rm) (x := px) (y := py) (z := mn 12 (mx 0 (G - sh) + d)) hSW.2 hSH.2 (by omega)
  obtain ⟨a, s4, e4, k4, b4⟩ := e_draw (n := n) (many := 3) b3 (by omega) (by omega)
  have ha : a = 0 ∨ a = 1 ∨ a = 2 := by omega
  obtain ⟨v, s5, e5, k5, b5⟩ := e_draw (n := n) (many := (if a = 0 then (W : Int) - sd else if a = 1 then (H : Int) - sd else 12) + 1) b4 (by split <;> (try split) <;> omega) (by omega)
  refine ⟨px, py, mn 12 (mx 0 (G - sh) + d), a, v, s5, some (.val (.int (mx 0 (G - sh)))), some (.val (.int (if a = 0 then (W : Int) - sd else if a = 1 then (H : Int) - sd else 12))), b5, ⟨by omega, by omega⟩, by omega, fun p hp => by have := hg2.2 p hp; omega, ha, by omega, fun rest => ?_⟩
  generalize hz' : mn 12 (mx 0 (G - sh) + d) = z at *
  simp only [ptD] at ec
  rcases ha with rfl | rfl | rfl
  · simp at e5
    simp [i1, i2, i3, i4, i5, i6, i7, EI, e1, e2, ew, et, e3, ec, e4, e5, borrows, isOwn, LINE, hz', ptD]
  · simp at e5
    simp [i1, i2, i3, i4, i5, i6, i7, EI, e1, e2, ew, et, e3, ec, e4, e5, borrows, isOwn, LINE, hz', ptD]
  · simp at e5
    simp [i1, i2, i3, i4, i5, i6, i7, EI, e1, e2, ew, et, e3, ec, e4, e5, borrows, isOwn, LINE, hz', ptD]
end
end PV.K43
set_option maxRecDepth 100000
set_option maxHeartbeats 1000000
namespace PV.K43
open PySem PV
section
variable {n : Nat} {s : Sto} {sd sh rm x y z x' y' z' : Int} {f : Int → Int → Int} {W H : Nat} {k : Bool} {sc nm : D} {top : Int} {u2 u7 u8 u9 u10 u11 u12 u13 u14 u15 u16 u17 u18 u19 u20 u21 : Option SV}
theorem sim_pt {j : Nat} : Sim (j + 1) (ptD x y z) := .tup (by simp) fun d hd => by
  simp only [List.mem_cons, List.not_mem_nil, or_false] at hd
  rcases hd with rfl | rfl | rfl <;> exact .int
theorem sim_st {j : Nat} : Sim (j + 2) (stD (ptD x y z) (ptD x' y' z')) := .tup (by simp) fun d hd => by
  simp only [List.mem_cons, List.not_mem_nil, or_false] at hd
  rcases hd with rfl | rfl <;> exact sim_pt
theorem sim_bD (hW : W ≤ 10) (hH : H ≤ 10) {j : Nat} : Sim (j + 2) (bD W H f) := .tup (by simp; omega) fun d hd => by
  obtain ⟨i, _, rfl⟩ := List.mem_map.mp hd
  refine .tup (by simp; omega) fun d hd => ?_
  obtain ⟨i, _, rfl⟩ := List.mem_map.mp hd
  exact .int
theorem sim_btw {j : Nat} : Sim (j + 3) (.lst (btw x y z x' y' z')) := by
  unfold btw
  refine .lst ?_ fun d hd => ?_
  · simp only [List.length_append]; split <;> split <;> split <;> simp
  · simp only [List.mem_append] at hd
    rcases hd with hd | hd | hd
    · split at hd
      · cases hd
      · rw [List.mem_singleton] at hd; rw [hd]; exact sim_st
    · split at hd
      · cases hd
      · rw [List.mem_singleton] at hd; rw [hd]; exact sim_st
    · split at hd
      · cases hd
      · rw [List.mem_singleton] at hd; rw [hd]; exact sim_st
theorem btw_one (hO : One x y z x' y' z') : btw x y z x' y' z' = [stD (ptD x y z) (ptD x' y' z')] := by
  unfold btw
  rcases hO with ⟨h1, h2, h3⟩ | ⟨h1, h2, h3⟩ | ⟨h1, h2, h3⟩
  · subst h2 h3; simp [h1]
  · subst h1 h3; simp [h2]
  · subst h1 h2; simp [h3]
theorem absI_neg {a b : Int} : absI (a - b) = absI (b - a) := by unfold absI; split <;> split <;> omega
/-- the checks of one stroke -/
theorem chk_turn {a : Int} {v9 v13 v8 : Option SV} (L : Lie sd sh rm x y z x' y' z' f W H) (ha : (a = 0 ∧ y = y' ∧ z = z') ∨ (a = 1 ∧ x = x' ∧ z = z') ∨ (a = 2 ∧ x = x' ∧ y = y')) (hb : Bx s) (hn : 8 ≤ n) {g : Int → Int → Int} :
    ∃ (s' : Sto) (v18 v19 v20 : Option SV), Bx s' ∧ execs (callF fs gs n) gs (.c j1 (.c j2 (.c j3 (.c j4 (.c j5 .nil))))) (EI sc (.tup [nm, .int sd, .int sh, .int rm]) W H top g u2 u7 v8 v9 (some (.val (ptD x y z))) (some (.val (bD W H f))) (some (.val (.int a))) v13 (some (.val (ptD x' y' z'))) u15 u16 u17 u18 u19 u20 u21) s
      = .ok (.nx (EI sc (.tup [nm, .int sd, .int sh, .int rm]) W H top g u2 u7 v8 v9 (some (.val (ptD x y z))) (some (.val (bD W H f))) (some (.val (.int a))) v13 (some (.val (ptD x' y' z'))) u15 u16 u17 v18 v19 v20 u21)) s' := by
  have hS := L.S.sd
  have hp := L.hp
  unfold Fit at hp
  obtain ⟨d, s1, e1, hd, b1⟩ := e_draw (n := n) (many := 2) hb (by omega) (by omega)
  have main : ∀ k : Bool, exec (callF fs gs n) gs j1 (EI sc (.tup [nm, .int sd, .int sh, .int rm]) W H top g u2 u7 v8 v9 (some (.val (ptD x y z))) (some (.val (bD W H f))) (some (.val (.int a))) v13 (some (.val (ptD x' y' z'))) u15 u16 u17 u18 u19 u20 u21) s
      = .ok (.nx (EI sc (.tup [nm, .int sd, .int sh, .int rm]) W H top g u2 u7 v8 v9 (some (.val (ptD x y z))) (some (.val (bD W H f))) (some (.val (.int a))) v13 (some (.val (ptD x' y' z'))) u15 u16 u17 (some (.val (kindD k))) u19 u20 u21)) s1 → (∃ (s' : Sto) (v18 v19 v20 : Option SV), Bx s' ∧ execs (callF fs gs n) gs (.c j1 (.c j2 (.c j3 (.c j4 (.c j5 .nil))))) (EI sc (.tup [nm, .int sd, .int sh, .int rm]) W H top g u2 u7 v8 v9 (some (.val (ptD x y z))) (some (.val (bD W H f))) (some (.val (.int a))) v13 (some (.val (ptD x' y' z'))) u15 u16 u17 u18 u19 u20 u21) s
      = .ok (.nx (EI sc (.tup [nm, .int sd, .int sh, .int rm]) W H top g u2 u7 v8 v9 (some (.val (ptD x y z))) (some (.val (bD W H f))) (some (.val (.int a))) v13 (some (.val (ptD x' y' z'))) u15 u16 u17 v18 v19 v20 u21)) s') := fun k ej1 => by
    have hd' : ¬ (x = x' ∧ y = y' ∧ z = z') := by rcases L.O with h | h | h <;> omega
    have es := e_stroke (n := n) (s := s1) (k := k) (nm := nm) L (by omega)
    have ek := e_strike (n := n) (s := s1) (k := k) (nm := nm) (f := f) (sh := sh) (z := z) (x' := x') (y' := y') (z' := z') ⟨by omega, hS.2⟩ L.S.rm hp.1 hp.2 L.S.W L.S.H hd' (by omega)
    have ebh := e_behind (n := n) (s := s1) (f := f) (nm := nm) (sd := sd) (sh := sh) (rm := rm) (x := x) (y := y) (z := z) (x' := x') (y' := y') (z' := z') L.S.W.2 L.S.H.2 (by omega)
    have ebt := e_between (n := n) (s := s1) (x := x) (y := y) (z := z) (x' := x') (y' := y') (z' := z') (by omega)
    have est := e_steps (n := n) (s := s1) (x := x) (y := y) (z := z) (x' := x') (y' := y') (z' := z') (by omega)
    rw [btw_one L.O] at ebt
    have esn := e_same (d := .non) (k := 0) .non (n := n) (s := s1) (by omega)
    have esi := fun i : Int => e_same (d := .int i) (k := 0) .int (n := n) (s := s1) (by omega)
    have esb := e_same (sim_bD (f := behf sd x y z x' y' z' f) L.S.W.2 L.S.H.2 (j := 0)) (n := n) (s := s1) (by omega)
    have eN : ∃ N : Int, absI (x - x') + (absI (y - y') + absI (z - z')) = N ∧ ∀ p p' : Int, ((a = 0 ∧ p = x ∧ p' = x') ∨ (a = 1 ∧ p = y ∧ p' = y') ∨ (a = 2 ∧ p = z ∧ p' = z')) → (if p' - p < 0 then -(p' - p) else p' - p) = N := by
      refine ⟨_, rfl, fun p p' h => ?_⟩
      show absI (p' - p) = _
      have e0 : ∀ c : Int, absI (c - c) = 0 := fun c => by rw [absI_p (by omega)]; omega
      rcases ha with ⟨h1, h2, h3⟩ | ⟨h1, h2, h3⟩ | ⟨h1, h2, h3⟩
      · have : p = x ∧ p' = x' := by omega
        rw [this.1, this.2, ← h2, ← h3, e0, e0, absI_neg]; omega
      · have : p = y ∧ p' = y' := by omega
        rw [this.1, this.2, ← h2, ← h3, e0, e0, absI_neg]; omega
      · have : p = z ∧ p' = z' := by omega
        rw [this.1, this.2, ← h2, ← h3, e0, e0, absI_neg]; omega
    obtain ⟨N, eN1, eN2⟩ := eN
    rw [eN1] at est
    have esl := e_same (d := .tup [.lst [stD (ptD x y z) (ptD x' y' z')], .int N]) (k := 4) (.tup (by simp) fun d hd => by
      simp only [List.mem_cons, List.not_mem_nil, or_false] at hd
      rcases hd with rfl | rfl
      · exact .lst (by simp) fun d hd => by
          rw [List.mem_singleton] at hd; rw [hd]; exact sim_st
      · exact .int) (n := n) (s := s1) (by omega)
    change callF fs gs n 16 [bD W H f, .tup [nm, .int sd, .int sh, .int rm], kindD k, ptD x y z, ptD x' y' z'] s1 = .ok (oD (strikeO k sd sh rm x y z x' y' z' f W H)) s1 at ek
    have ej5 : ∀ v19 v20, exec (callF fs gs n) gs j5 (EI sc (.tup [nm, .int sd, .int sh, .int rm]) W H top g u2 u7 v8 v9 (some (.val (ptD x y z))) (some (.val (bD W H f))) (some (.val (.int a))) v13 (some (.val (ptD x' y' z'))) u15 u16 u17 (some (.val (kindD k))) v19 v20 u21) s1
        = .ok (.nx (EI sc (.tup [nm, .int sd, .int sh, .int rm]) W H top g u2 u7 v8 v9 (some (.val (ptD x y z))) (some (.val (bD W H f))) (some (.val (.int a))) v13 (some (.val (ptD x' y' z'))) u15 u16 u17 (some (.val (kindD k))) v19 v20 u21)) s1 := fun v19 v20 => by
      unfold stD at ebt esl
      rcases ha with ⟨rfl, h2, h3⟩ | ⟨rfl, h2, h3⟩ | ⟨rfl, h2, h3⟩
      · have q := eN2 x x' (by omega)
        have i1 : idxD (ptD x' y' z') (.int 0) = some (.int x') := by simp [ptD]
        have i2 : idxD (ptD x y z) (.int 0) = some (.int x) := by simp [ptD]
        have dp : ∀ a b c : Int, deref s1 (ptD a b c) = ptD a b c := fun _ _ _ => rfl
        simp [j5, EI, ebt, est, esl, i1, i2, dp, q, borrows, isOwn]
      · have q := eN2 y y' (by omega)
        have i1 : idxD (ptD x' y' z') (.int 1) = some (.int y') := by simp [ptD]
        have i2 : idxD (ptD x y z) (.int 1) = some (.int y) := by simp [ptD]
        have dp : ∀ a b c : Int, deref s1 (ptD a b c) = ptD a b c := fun _ _ _ => rfl
        simp [j5, EI, ebt, est, esl, i1, i2, dp, q, borrows, isOwn]
      · have q := eN2 z z' (by omega)
        have i1 : idxD (ptD x' y' z') (.int 2) = some (.int z') := by simp [ptD]
        have i2 : idxD (ptD x y z) (.int 2) = some (.int z) := by simp [ptD]
        have dp : ∀ a b c : Int, deref s1 (ptD a b c) = ptD a b c := fun _ _ _ => rfl
        simp [j5, EI, ebt, est, esl, i1, i2, dp, q, borrows, isOwn]
    have res : ∃ v19 v20, execs (callF fs gs n) gs (.c j2 (.c j3 (.c j4 (.c j5 .nil)))) (EI sc (.tup [nm, .int sd, .int sh, .int rm]) W H top g u2 u7 v8 v9 (some (.val (ptD x y z))) (some (.val (bD W H f))) (some (.val (.int a))) v13 (some (.val (ptD x' y' z'))) u15 u16 u17 (some (.val (kindD k))) u19 u20 u21) s1
        = .ok (.nx (EI sc (.tup [nm, .int sd, .int sh, .int rm]) W H top g u2 u7 v8 v9 (some (.val (ptD x y z))) (some (.val (bD W H f))) (some (.val (.int a))) v13 (some (.val (ptD x' y' z'))) u15 u16 u17 (some (.val (kindD k))) v19 v20 u21)) s1 := by
      rcases es with ⟨B, e, j, hj⟩ | ⟨hj, e⟩
      · rw [hj] at e ek
        have q5 := ej5 (some (.val (.int j))) (some (.val B))
        refine ⟨some (.val (.int j)), some (.val B), ?_⟩
        simp only [EI] at q5
        simp [oD] at e ek
        simp [j2, j3, j4, EI, e, ek, esi, oD, borrows, isOwn, q5]
      · rw [hj] at ek
        have q5 := ej5 (some (.val .non)) (some (.val (bD W H (behf sd x y z x' y' z' f))))
        refine ⟨some (.val .non), some (.val (bD W H (behf sd x y z x' y' z' f))), ?_⟩
        simp only [EI] at q5
        simp [oD] at ek
        simp [j2, j3, j4, EI, e, ek, esn, esb, ebh, oD, borrows, isOwn, q5]
    obtain ⟨v19, v20, e⟩ := res
    exact (⟨s1, some (.val (kindD k)), v19, v20, b1, by rw [execs_c, ej1, nextF_nx, e]⟩ : ∃ (s' : Sto) (v18 v19 v20 : Option SV), Bx s' ∧ execs (callF fs gs n) gs (.c j1 (.c j2 (.c j3 (.c j4 (.c j5 .nil))))) (EI sc (.tup [nm, .int sd, .int sh, .int rm]) W H top g u2 u7 v8 v9 (some (.val (ptD x y z))) (some (.val (bD W H f))) (some (.val (.int a))) v13 (some (.val (ptD x' y' z'))) u15 u16 u17 u18 u19 u20 u21) s
      = .ok (.nx (EI sc (.tup [nm, .int sd, .int sh, .int rm]) W H top g u2 u7 v8 v9 (some (.val (ptD x y z))) (some (.val (bD W H f))) (some (.val (.int a))) v13 (some (.val (ptD x' y' z'))) u15 u16 u17 v18 v19 v20 u21)) s')
  rcases (by omega : d = 0 ∨ d = 1) with rfl | rfl
  · exact main true (by simp [j1, EI, e1, borrows, isOwn, kindD])
  · exact main false (by simp [j1, EI, e1, borrows, isOwn, kindD])
end
end PV.K43
set_option maxRecDepth 100000
set_option maxHeartbeats 1000000
namespace PV.K43
open PySem PV
section
variable {n : Nat} {s : Sto} {sd sh rm x y z x' y' z' : Int} {f : Int → Int → Int} {W H : Nat} {k : Bool} {sc nm : D} {top : Int} {u2 u7 u8 u9 u10 u11 u12 u13 u14 u15 u16 u17 u18 u19 u20 u21 : Option SV}
theorem oth_turn (S : Setup sd sh rm W H) (hW : sd ≤ W) (hH : sd ≤ H) (hb : Bx s) (hn : 8 ≤ n) :
    ∃ (s' : Sto) (v15 v16 v17 : Option SV), Bx s' ∧ execs (callF fs gs n) gs (.c i9 (.c i10 (.c i11 (.c i12 .nil)))) (EI sc (.tup [nm, .int sd, .int sh, .int rm]) W H top f u2 u7 u8 u9 (some (.val (ptD x y z))) u11 u12 u13 u14 u15 u16 u17 u18 u19 u20 u21) s
      = .ok (.nx (EI sc (.tup [nm, .int sd, .int sh, .int rm]) W H top f u2 u7 u8 u9 (some (.val (ptD x y z))) u11 u12 u13 u14 v15 v16 v17 u18 u19 u20 u21)) s' := by
  have hsd := S.sd
  have hSW := S.W
  have hSH := S.H
  obtain ⟨p, s1, e1, k1, b1⟩ := e_draw (n := n) (many := W - sd + 1) hb (by omega) (by omega)
  obtain ⟨q, s2, e2, k2, b2⟩ := e_draw (n := n) (many := H - sd + 1) b1 (by omega) (by omega)
  obtain ⟨r, s3, e3, k3, b3⟩ := e_draw (n := n) (many := 13) b2 (by omega) (by omega)
  have ebt := e_between (n := n) (s := s3) (x := x) (y := y) (z := z) (x' := p) (y' := q) (z' := r) (by omega)
  have esm := e_same (sim_btw (x := x) (y := y) (z := z) (x' := p) (y' := q) (z' := r) (j := 0)) (n := n) (s := s3) (by omega)
  have hir : rng1? (.int 3) = some [.int 0, .int 1, .int 2] := by rw [rng1_ir (by omega)]; rfl
  have hways : ∀ env, env = EI sc (.tup [nm, .int sd, .int sh, .int rm]) W H top f u2 u7 u8 u9 (some (.val (ptD x y z))) u11 u12 u13 u14 (some (.val (ptD p q r))) (some (.val (.lst [ptD x y z, ptD p y z, ptD p q z, ptD p q r]))) u17 u18 u19 u20 u21 →
      exec (callF fs gs n) gs i11 env s3 = .ok (.nx (EI sc (.tup [nm, .int sd, .int sh, .int rm]) W H top f u2 u7 u8 u9 (some (.val (ptD x y z))) u11 u12 u13 u14 (some (.val (ptD p q r))) (some (.val (.lst [ptD x y z, ptD p y z, ptD p q z, ptD p q r]))) (some (.val (.lst (btw x y z p q r)))) u18 u19 u20 u21)) s3 := by
    rintro env rfl
    have l3 : ∀ a b c d : D, idxD (.lst [a, b, c, d]) (.int 3) = some d := fun _ _ _ _ => idx_lstI (by omega) rfl
    have dp : ∀ a b c : Int, deref s3 (ptD a b c) = ptD a b c := fun _ _ _ => rfl
    unfold btw stD
    by_cases c1 : x = p <;> by_cases c2 : y = q <;> by_cases c3 : z = r <;>
      simp [i11, EI, evF_cp1', hir, turn1, noOwn, wipeE, LINE, l3, dp, c1, c2, c3]
  have hw := hways _ rfl
  refine ⟨s3, some (.val (ptD p q r)), some (.val (.lst [ptD x y z, ptD p y z, ptD p q z, ptD p q r])), some (.val (.lst (btw x y z p q r))), b3, ?_⟩
  have h9 : exec (callF fs gs n) gs i9 (EI sc (.tup [nm, .int sd, .int sh, .int rm]) W H top f u2 u7 u8 u9 (some (.val (ptD x y z))) u11 u12 u13 u14 u15 u16 u17 u18 u19 u20 u21) s
      = .ok (.nx (EI sc (.tup [nm, .int sd, .int sh, .int rm]) W H top f u2 u7 u8 u9 (some (.val (ptD x y z))) u11 u12 u13 u14 (some (.val (ptD p q r))) u16 u17 u18 u19 u20 u21)) s3 := by
    simp [i9, EI, e1, e2, e3, borrows, isOwn, ptD]
  have h10 : exec (callF fs gs n) gs i10 (EI sc (.tup [nm, .int sd, .int sh, .int rm]) W H top f u2 u7 u8 u9 (some (.val (ptD x y z))) u11 u12 u13 u14 (some (.val (ptD p q r))) u16 u17 u18 u19 u20 u21) s3
      = .ok (.nx (EI sc (.tup [nm, .int sd, .int sh, .int rm]) W H top f u2 u7 u8 u9 (some (.val (ptD x y z))) u11 u12 u13 u14 (some (.val (ptD p q r))) (some (.val (.lst [ptD x y z, ptD p y z, ptD p q z, ptD p q r]))) u17 u18 u19 u20 u21)) s3 := by
    simp [i10, EI, ptD]
  have h12 : ∀ v16, exec (callF fs gs n) gs i12 (EI sc (.tup [nm, .int sd, .int sh, .int rm]) W H top f u2 u7 u8 u9 (some (.val (ptD x y z))) u11 u12 u13 u14 (some (.val (ptD p q r))) v16 (some (.val (.lst (btw x y z p q r)))) u18 u19 u20 u21) s3
      = .ok (.nx (EI sc (.tup [nm, .int sd, .int sh, .int rm]) W H top f u2 u7 u8 u9 (some (.val (ptD x y z))) u11 u12 u13 u14 (some (.val (ptD p q r))) v16 (some (.val (.lst (btw x y z p q r)))) u18 u19 u20 u21)) s3 := fun v16 => by
    simp [i12, EI, ebt, esm, borrows, isOwn]
  rw [execs_c, h9, nextF_nx, execs_c, h10, nextF_nx, execs_c, hw, nextF_nx, execs_c, h12, nextF_nx, execs_nil]
/-- one turn of the inner loop -/
theorem in_turn (S : Setup sd sh rm W H) (hW : sd ≤ W) (hH : sd ≤ H) (hf : ∀ a b : Int, (0 ≤ a ∧ a < W) → (0 ≤ b ∧ b < H) → 0 ≤ f a b ∧ f a b ≤ 6) (hb : Bx s) (hn : 8 ≤ n) :
    ∃ (s' : Sto) (v8 v9 v10 v11 v12 v13 v14 v15 v16 v17 v18 v19 v20 v21 : Option SV), Bx s' ∧ execs (callF fs gs n) gs bIn (EI sc (.tup [nm, .int sd, .int sh, .int rm]) W H top f u2 u7 u8 u9 u10 u11 u12 u13 u14 u15 u16 u17 u18 u19 u20 u21) s
      = .ok (.nx (EI sc (.tup [nm, .int sd, .int sh, .int rm]) W H top f u2 u7 v8 v9 v10 v11 v12 v13 v14 v15 v16 v17 v18 v19 v20 v21)) s' := by
  obtain ⟨px, py, z, a, v, s1, v9, v13, b1, hfit, hz, hwin, ha, hv, e1⟩ := pre_turn (n := n) (f := f) (sc := sc) (nm := nm) (top := top) (u2 := u2) (u7 := u7) (u8 := u8) (u9 := u9) (u10 := u10) (u11 := u11) (u12 := u12) (u13 := u13) (u14 := u14) (u15 := u15) (u16 := u16) (u17 := u17) (u18 := u18) (u19 := u19) (u20 := u20) (u21 := u21) S hW hH hf hb (by omega)
  unfold bIn
  rw [e1]
  have hsd := S.sd
  have hfit' := hfit
  unfold Fit at hfit'
  -- the checks of the stroke, if there is one
  have mid : ∃ (s2 : Sto) (v18 v19 v20 : Option SV), Bx s2 ∧ exec (callF fs gs n) gs i8 (EI sc (.tup [nm, .int sd, .int sh, .int rm]) W H top f u2 u7 (some (.val (.tup [.int px, .int py]))) v9 (some (.val (ptD px py z))) (some (.val (bD W H (cutf sd px py z f)))) (some (.val (.int a))) v13
          (some (.val (ptD (if a = 0 then v else px) (if a = 1 then v else py) (if a = 2 then v else z)))) u15 u16 u17 u18 u19 u20 u21) s1
      = .ok (.nx (EI sc (.tup [nm, .int sd, .int sh, .int rm]) W H top f u2 u7 (some (.val (.tup [.int px, .int py]))) v9 (some (.val (ptD px py z))) (some (.val (bD W H (cutf sd px py z f)))) (some (.val (.int a))) v13
          (some (.val (ptD (if a = 0 then v else px) (if a = 1 then v else py) (if a = 2 then v else z)))) u15 u16 u17 v18 v19 v20 u21)) s2 := by
    generalize hX : (if a = 0 then v else px) = X at *
    generalize hY : (if a = 1 then v else py) = Y at *
    generalize hZ : (if a = 2 then v else z) = Z at *
    have dp : ∀ (t : Sto) (a b c : Int), deref t (ptD a b c) = ptD a b c := fun _ _ _ _ => rfl
    by_cases c : X = px ∧ Y = py ∧ Z = z
    · refine ⟨s1, u18, u19, u20, b1, ?_⟩
      simp [i8, EI, dp, c]
    · have hax : (a = 0 ∧ py = Y ∧ z = Z) ∨ (a = 1 ∧ px = X ∧ z = Z) ∨ (a = 2 ∧ px = X ∧ py = Y) := by
        rcases ha with rfl | rfl | rfl
        · simp at hX hY hZ; omega
        · simp at hX hY hZ; omega
        · simp at hX hY hZ; omega
      have hO : One px py z X Y Z := by unfold One; omega
      have hq : Fit sd W H X Y ∧ 0 ≤ Z ∧ Z ≤ 1000 := by
        unfold Fit
        rcases ha with rfl | rfl | rfl
        · simp at hX hY hZ hv; omega
        · simp at hX hY hZ hv; omega
        · simp at hX hY hZ hv; omega
      have L : Lie sd sh rm px py z X Y Z (cutf sd px py z f) W H := ⟨S, hO, hfit, hq.1, by omega, hq.2, fun a b h => by rw [cut_in h]; exact (mn_s _ _).1.2, fun p hp => by
        rw [mem_ab] at hp
        rw [cut_out hp.2.2]
        exact hwin p (mem_win.mpr ⟨hp.1, by omega⟩)⟩
      obtain ⟨s2, v18, v19, v20, b2, e2⟩ := chk_turn (n := n) (s := s1) (sc := sc) (nm := nm) (top := top) (u2 := u2) (u7 := u7) (u15 := u15) (u16 := u16) (u17 := u17) (u18 := u18) (u19 := u19) (u20 := u20) (u21 := u21) (v9 := v9) (v13 := v13) (v8 := some (.val (.tup [.int px, .int py]))) (a := a) L hax b1 hn (g := f)
      refine ⟨s2, v18, v19, v20, b2, ?_⟩
      unfold i8
      rw [exec_ite]
      have et : ev (callF fs gs n) gs true (.cmp .ne (.var 14) (.var 10)) (EI sc (.tup [nm, .int sd, .int sh, .int rm]) W H top f u2 u7 (some (.val (.tup [.int px, .int py]))) v9 (some (.val (ptD px py z))) (some (.val (bD W H (cutf sd px py z f)))) (some (.val (.int a))) v13 (some (.val (ptD X Y Z))) u15 u16 u17 u18 u19 u20 u21) s1 = .ok (.bl true) s1 := by
        have c' : ¬ X = px ∨ ¬ Y = py ∨ ¬ Z = z := by omega
        simp [EI, dp]
        exact c'
      rw [et, ok_bind, truthS_bl, ok_bind, if_pos rfl, e2]
  obtain ⟨s2, v18, v19, v20, b2, e2⟩ := mid
  obtain ⟨s3, v15, v16, v17, b3, e3⟩ := oth_turn (n := n) (s := s2) (f := f) (sc := sc) (nm := nm) (top := top) (x := px) (y := py) (z := z) (u2 := u2) (u7 := u7) (u8 := some (.val (.tup [.int px, .int py]))) (u9 := v9) (u11 := some (.val (bD W H (cutf sd px py z f)))) (u12 := some (.val (.int a))) (u13 := v13)
    (u14 := some (.val (ptD (if a = 0 then v else px) (if a = 1 then v else py) (if a = 2 then v else z)))) (u15 := u15) (u16 := u16) (u17 := u17) (u18 := v18) (u19 := v19) (u20 := v20) (u21 := u21) S hW hH b2 hn
  exact ⟨s3, _, _, _, _, _, _, _, v15, v16, v17, v18, v19, v20, u21, b3, by rw [execs_c, e2, nextF_nx, e3]⟩
end
end PV.K43
set_option maxRecDepth 100000
set_option maxHeartbeats 1000000
namespace PV.K43
open PySem PV
section
variable {n : Nat} {s : Sto} {sc : D}
/-- the outer loop's frame -/
def EO (sc : D) (u : List (Option SV)) : Env := some (.val sc) :: some (.val (.loc 1)) :: u
theorem in_loop {sd sh rm : Int} {f : Int → Int → Int} {W H : Nat} {nm : D} {top : Int} {u2 u7 u8 u9 u10 u11 u12 u13 u14 u15 u16 u17 u18 u19 u20 u21 : Option SV} (S : Setup sd sh rm W H) (hW : sd ≤ W) (hH : sd ≤ H) (hf : ∀ a b : Int, (0 ≤ a ∧ a < W) → (0 ≤ b ∧ b < H) → 0 ≤ f a b ∧ f a b ≤ 6) (hb : Bx s) (hn : 8 ≤ n) :
    ∃ (s' : Sto) (v7 v8 v9 v10 v11 v12 v13 v14 v15 v16 v17 v18 v19 v20 v21 : Option SV), Bx s' ∧ exec (callF fs gs n) gs (.for (.nm 7) (.rg1 (.int 4)) bIn) (EI sc (.tup [nm, .int sd, .int sh, .int rm]) W H top f u2 u7 u8 u9 u10 u11 u12 u13 u14 u15 u16 u17 u18 u19 u20 u21) s
      = .ok (.nx (EI sc (.tup [nm, .int sd, .int sh, .int rm]) W H top f u2 v7 v8 v9 v10 v11 v12 v13 v14 v15 v16 v17 v18 v19 v20 v21)) s' := by
  rw [exec_for]
  have e4 : frzI (EI sc (.tup [nm, .int sd, .int sh, .int rm]) W H top f u2 u7 u8 u9 u10 u11 u12 u13 u14 u15 u16 u17 u18 u19 u20 u21) (.rg1 (.int 4)) = EI sc (.tup [nm, .int sd, .int sh, .int rm]) W H top f u2 u7 u8 u9 u10 u11 u12 u13 u14 u15 u16 u17 u18 u19 u20 u21 := rfl
  have e5 : evI (callF fs gs n) gs false (.rg1 (.int 4)) (EI sc (.tup [nm, .int sd, .int sh, .int rm]) W H top f u2 u7 u8 u9 u10 u11 u12 u13 u14 u15 u16 u17 u18 u19 u20 u21) s = .ok ((ir 0 4).map D.int) s := by
    simp [rng1_ir (j := 4) (by omega)]
  rw [e4, e5, ok_bind]
  obtain ⟨env', s', e1, hb', v7, v8, v9, v10, v11, v12, v13, v14, v15, v16, v17, v18, v19, v20, v21, e2⟩ := forF_inv (f := stepF (callF fs gs n) gs (.nm 7) bIn) (mk := D.int)
    (I := fun _ env s => Bx s ∧ ∃ v7 v8 v9 v10 v11 v12 v13 v14 v15 v16 v17 v18 v19 v20 v21, env = EI sc (.tup [nm, .int sd, .int sh, .int rm]) W H top f u2 v7 v8 v9 v10 v11 v12 v13 v14 v15 v16 v17 v18 v19 v20 v21) (xs := ir 0 4) (pre := [])
    ⟨hb, u7, u8, u9, u10, u11, u12, u13, u14, u15, u16, u17, u18, u19, u20, u21, rfl⟩ (fun p i q env s1 _ ⟨hb1, w7, w8, w9, w10, w11, w12, w13, w14, w15, w16, w17, w18, w19, w20, w21, e⟩ => by
      subst e
      obtain ⟨s2, v8, v9, v10, v11, v12, v13, v14, v15, v16, v17, v18, v19, v20, v21, b2, e2⟩ := in_turn (n := n) (s := s1) (f := f) (sc := sc) (nm := nm) (top := top) (u2 := u2) (u7 := some (.val (.int i))) (u8 := w8) (u9 := w9) (u10 := w10) (u11 := w11) (u12 := w12) (u13 := w13) (u14 := w14) (u15 := w15) (u16 := w16) (u17 := w17) (u18 := w18) (u19 := w19) (u20 := w20) (u21 := w21) S hW hH hf hb1 hn
      have eb : bindT (.nm 7) (.int i) (EI sc (.tup [nm, .int sd, .int sh, .int rm]) W H top f u2 w7 w8 w9 w10 w11 w12 w13 w14 w15 w16 w17 w18 w19 w20 w21) = some (EI sc (.tup [nm, .int sd, .int sh, .int rm]) W H top f u2 (some (.val (.int i))) w8 w9 w10 w11 w12 w13 w14 w15 w16 w17 w18 w19 w20 w21) := rfl
      exact ⟨_, s2, by unfold stepF; simp only [eb]; exact e2, b2, _, v8, v9, v10, v11, v12, v13, v14, v15, v16, v17, v18, v19, v20, v21, rfl⟩)
  subst e2
  exact ⟨s', v7, v8, v9, v10, v11, v12, v13, v14, v15, v16, v17, v18, v19, v20, v21, hb', e1⟩
theorem out_turn {u2 u3 u4 u5 u6 u7 u8 u9 u10 u11 u12 u13 u14 u15 u16 u17 u18 u19 u20 u21 : Option SV} (hb : Bx s) (hn : 8 ≤ n) :
    ∃ (s' : Sto) (v2 v3 v4 v5 v6 v7 v8 v9 v10 v11 v12 v13 v14 v15 v16 v17 v18 v19 v20 v21 : Option SV), Bx s' ∧ execs (callF fs gs n) gs bOt (EO sc [u2, u3, u4, u5, u6, u7, u8, u9, u10, u11, u12, u13, u14, u15, u16, u17, u18, u19, u20, u21]) s
      = .ok (.nx (EO sc [v2, v3, v4, v5, v6, v7, v8, v9, v10, v11, v12, v13, v14, v15, v16, v17, v18, v19, v20, v21])) s' := by
  obtain ⟨t, r, s1, e1, b1, ht⟩ := e_tools (n := n) hb (by omega)
  obtain ⟨nm, sd, sh, rm⟩ := t
  unfold ToolP at ht
  simp only at ht
  obtain ⟨d1, s2, e2, k2, b2⟩ := e_draw (n := n) (many := 4) b1 (by omega) (by omega)
  obtain ⟨d2, s3, e3, k3, b3⟩ := e_draw (n := n) (many := 4) b2 (by omega) (by omega)
  obtain ⟨d3, s4, e4, k4, b4⟩ := e_draw (n := n) (many := 6) b3 (by omega) (by omega)
  have hWc : ((sd + d1).toNat : Int) = sd + d1 := by omega
  have hHc : ((sd + d2).toNat : Int) = sd + d2 := by omega
  obtain ⟨f, s5, e5, b5, hf⟩ := e_block (n := n) (W := (sd + d1).toNat) (H := (sd + d2).toNat) (top := 1 + d3) b4 (by omega) (by omega) (by omega) (by omega)
  have S : Setup sd sh rm (sd + d1).toNat (sd + d2).toNat := ⟨ht.1, ht.2.1, ht.2.2, by omega, by omega⟩
  obtain ⟨s6, v7, v8, v9, v10, v11, v12, v13, v14, v15, v16, v17, v18, v19, v20, v21, b6, e6⟩ := in_loop (n := n) (s := s5) (sc := sc) (nm := .str nm) (top := 1 + d3) (f := f) (u2 := u2) (u7 := u7) (u8 := u8) (u9 := u9) (u10 := u10) (u11 := u11) (u12 := u12) (u13 := u13) (u14 := u14) (u15 := u15) (u16 := u16) (u17 := u17) (u18 := u18) (u19 := u19) (u20 := u20) (u21 := u21) S (by omega) (by omega) (fun a b h1 h2 => by have := hf a b h1 h2; omega) b5 hn
  refine ⟨s6, u2, some (.val (.tup [.str nm, .int sd, .int sh, .int rm])), some (.val (.tup [.int (sd + d1), .int (sd + d2)])), some (.val (.int (1 + d3))), some (.val (bD (sd + d1).toNat (sd + d2).toNat f)), v7, v8, v9, v10, v11, v12, v13, v14, v15, v16, v17, v18, v19, v20, v21, b6, ?_⟩
  unfold EI at e6
  rw [hWc, hHc] at e6 e5
  have h1 : exec (callF fs gs n) gs o1 (EO sc [u2, u3, u4, u5, u6, u7, u8, u9, u10, u11, u12, u13, u14, u15, u16, u17, u18, u19, u20, u21]) s = .ok (.nx (EO sc [u2, some (.val (.tup [.str nm, .int sd, .int sh, .int rm])), u4, u5, u6, u7, u8, u9, u10, u11, u12, u13, u14, u15, u16, u17, u18, u19, u20, u21])) s1 := by
    simp [o1, EO, e1, toolD, borrows, isOwn]
  have h2 : exec (callF fs gs n) gs o2 (EO sc [u2, some (.val (.tup [.str nm, .int sd, .int sh, .int rm])), u4, u5, u6, u7, u8, u9, u10, u11, u12, u13, u14, u15, u16, u17, u18, u19, u20, u21]) s1 = .ok (.nx (EO sc [u2, some (.val (.tup [.str nm, .int sd, .int sh, .int rm])), some (.val (.tup [.int (sd + d1), .int (sd + d2)])), some (.val (.int (1 + d3))), u6, u7, u8, u9, u10, u11, u12, u13, u14, u15, u16, u17, u18, u19, u20, u21])) s4 := by
    simp [o2, EO, e2, e3, e4, borrows, isOwn]
  have h3 : exec (callF fs gs n) gs o3 (EO sc [u2, some (.val (.tup [.str nm, .int sd, .int sh, .int rm])), some (.val (.tup [.int (sd + d1), .int (sd + d2)])), some (.val (.int (1 + d3))), u6, u7, u8, u9, u10, u11, u12, u13, u14, u15, u16, u17, u18, u19, u20, u21]) s4 = .ok (.nx (EO sc [u2, some (.val (.tup [.str nm, .int sd, .int sh, .int rm])), some (.val (.tup [.int (sd + d1), .int (sd + d2)])), some (.val (.int (1 + d3))), some (.val (bD (sd + d1).toNat (sd + d2).toNat f)), u7, u8, u9, u10, u11, u12, u13, u14, u15, u16, u17, u18, u19, u20, u21])) s5 := by
    simp [o3, EO, e5, borrows, isOwn]
  unfold bOt
  rw [execs_c, h1, nextF_nx, execs_c, h2, nextF_nx, execs_c, h3, nextF_nx, execs_c]
  unfold EO
  rw [e6, nextF_nx, execs_nil]
theorem core (ns : List Int) (h : ns.length ≤ 63) : ∃ st', callF fs gs 16 27 [.rol (ns.map D.int)] [] = .ok (.bl true) st' := by
  rw [call_at (f := c_law) rfl rfl]
  obtain ⟨s1, e1, b1⟩ := e_box (n := 15) (ns := ns) (by omega)
  generalize hsc : D.rol (ns.map D.int) = sc at *
  have h1 : exec (callF fs gs 15) gs l1 (startE c_law.N.length [sc]) [] = .ok (.nx (EO sc [none, none, none, none, none, none, none, none, none, none, none, none, none, none, none, none, none, none, none, none])) s1 := by
    simp [l1, c_law, startE, List.replicate, e1, borrows, isOwn, EO]
  have h2 : ∃ (s2 : Sto) (v2 v3 v4 v5 v6 v7 v8 v9 v10 v11 v12 v13 v14 v15 v16 v17 v18 v19 v20 v21 : Option SV), Bx s2 ∧ exec (callF fs gs 15) gs (.for (.nm 2) (.rg1 (.int 8)) bOt) (EO sc [none, none, none, none, none, none, none, none, none, none, none, none, none, none, none, none, none, none, none, none]) s1
      = .ok (.nx (EO sc [v2, v3, v4, v5, v6, v7, v8, v9, v10, v11, v12, v13, v14, v15, v16, v17, v18, v19, v20, v21])) s2 := by
    rw [exec_for]
    have e4 : frzI (EO sc [none, none, none, none, none, none, none, none, none, none, none, none, none, none, none, none, none, none, none, none]) (.rg1 (.int 8)) = EO sc [none, none, none, none, none, none, none, none, none, none, none, none, none, none, none, none, none, none, none, none] := rfl
    have e5 : evI (callF fs gs 15) gs false (.rg1 (.int 8)) (EO sc [none, none, none, none, none, none, none, none, none, none, none, none, none, none, none, none, none, none, none, none]) s1 = .ok ((ir 0 8).map D.int) s1 := by
      simp [rng1_ir (j := 8) (by omega)]
    rw [e4, e5, ok_bind]
    obtain ⟨env', s', e1, hb', v2, v3, v4, v5, v6, v7, v8, v9, v10, v11, v12, v13, v14, v15, v16, v17, v18, v19, v20, v21, e2⟩ := forF_inv (f := stepF (callF fs gs 15) gs (.nm 2) bOt) (mk := D.int)
      (I := fun _ env s => Bx s ∧ ∃ v2 v3 v4 v5 v6 v7 v8 v9 v10 v11 v12 v13 v14 v15 v16 v17 v18 v19 v20 v21, env = EO sc [v2, v3, v4, v5, v6, v7, v8, v9, v10, v11, v12, v13, v14, v15, v16, v17, v18, v19, v20, v21]) (xs := ir 0 8) (pre := [])
      ⟨b1, _, _, _, _, _, _, _, _, _, _, _, _, _, _, _, _, _, _, _, _, rfl⟩ (fun p i q env s1 _ ⟨hb1, w2, w3, w4, w5, w6, w7, w8, w9, w10, w11, w12, w13, w14, w15, w16, w17, w18, w19, w20, w21, e⟩ => by
        subst e
        obtain ⟨s2, v2, v3, v4, v5, v6, v7, v8, v9, v10, v11, v12, v13, v14, v15, v16, v17, v18, v19, v20, v21, b2, e2⟩ := out_turn (n := 15) (s := s1) (sc := sc) (u2 := some (.val (.int i))) (u3 := w3) (u4 := w4) (u5 := w5) (u6 := w6) (u7 := w7) (u8 := w8) (u9 := w9) (u10 := w10) (u11 := w11) (u12 := w12) (u13 := w13) (u14 := w14) (u15 := w15) (u16 := w16) (u17 := w17) (u18 := w18) (u19 := w19) (u20 := w20) (u21 := w21) hb1 (by omega)
        have eb : bindT (.nm 2) (.int i) (EO sc [w2, w3, w4, w5, w6, w7, w8, w9, w10, w11, w12, w13, w14, w15, w16, w17, w18, w19, w20, w21]) = some (EO sc [some (.val (.int i)), w3, w4, w5, w6, w7, w8, w9, w10, w11, w12, w13, w14, w15, w16, w17, w18, w19, w20, w21]) := rfl
        exact ⟨_, s2, by unfold stepF; simp only [eb]; exact e2, b2, v2, v3, v4, v5, v6, v7, v8, v9, v10, v11, v12, v13, v14, v15, v16, v17, v18, v19, v20, v21, rfl⟩)
    subst e2
    exact ⟨s', v2, v3, v4, v5, v6, v7, v8, v9, v10, v11, v12, v13, v14, v15, v16, v17, v18, v19, v20, v21, hb', e1⟩
  obtain ⟨s2, v2, v3, v4, v5, v6, v7, v8, v9, v10, v11, v12, v13, v14, v15, v16, v17, v18, v19, v20, v21, b2, e2⟩ := h2
  have ebt := e_between (n := 15) (s := s2) (x := 0) (y := 0) (z := 12) (x' := 2) (y' := 0) (z' := 1) (by omega)
  have esm := e_same (sim_btw (x := 0) (y := 0) (z := 12) (x' := 2) (y' := 0) (z' := 1) (j := 0)) (n := 15) (s := s2) (by omega)
  refine ⟨s2, ?_⟩
  rw [law_body, execs_c, h1, nextF_nx, execs_c, e2, nextF_nx]
  simp [btw, stD, ptD] at ebt esm
  simp [l3, ebt, esm, borrows, isOwn, frzR]
end
end PV.K43
set_option maxRecDepth 100000
set_option maxHeartbeats 0
namespace PV.K43
open PySem PySem.Spec PyProof.Rows L2 PV
/-! ### the text, the head -/
def top (i : Nat) : Stmt := PySem.Challenge.pw_pathsmilled_k43_whole_strokes.main.body.getD i (.Pass ⟨0, 0, 0, 0⟩)
def pd (x : Str) (i : Nat) (f : Fn) : PD := ⟨x, defArgs (top i), defBody (top i), defScope (top i), f⟩
def dd (x : Str) (i : Nat) : He.DefD := ⟨(x, none), x, x, defArgs (top i), defBody (top i), defScope (top i), [], []⟩
def ds : List PD := [pd "size_of" 1 c_size_of, pd "fields_beneath" 3 c_fields_beneath, pd "fields_about" 4 c_fields_about, pd "greatest_at" 5 c_greatest_at, pd "is_free" 6 c_is_free, pd "is_shank_free" 7 c_is_shank_free, pd "cut_at" 8 c_cut_at, pd "strokes_between" 11 c_strokes_between, pd "stroke_steps" 12 c_stroke_steps, pd "stroke_axis" 13 c_stroke_axis, pd "swept_bounds" 14 c_swept_bounds, pd "block_behind_stroke" 15 c_block_behind_stroke, pd "first_meeting" 16 c_first_meeting, pd "steps_to_height" 17 c_steps_to_height, pd "level_strike" 18 c_level_strike, pd "upright_strike" 19 c_upright_strike, pd "stroke_strike" 20 c_stroke_strike, pd "_law_flat" 22 c__law_flat, pd "_law_box" 23 c__law_box, pd "_law_load" 24 c__law_load, pd "_law_draw" 25 c__law_draw, pd "_law_same" 26 c__law_same, pd "_law_block" 27 c__law_block, pd "_law_tools" 28 c__law_tools, pd "_law_window" 29 c__law_window, pd "_law_top" 30 c__law_top, pd "_law_stroke" 31 c__law_stroke, pd "law" 32 c_law]
def gn : List Str := ["FAST"]
def fr : List Str := ["abs", "all", "bool", "enumerate", "int", "isinstance", "len", "list", "max", "min", "range", "str", "sum", "tuple", "zip"]
def fn : List He.DefD := [dd "size_of" 1, dd "fields_beneath" 3, dd "fields_about" 4, dd "greatest_at" 5, dd "is_free" 6, dd "is_shank_free" 7, dd "cut_at" 8, dd "strokes_between" 11, dd "stroke_steps" 12, dd "stroke_axis" 13, dd "swept_bounds" 14, dd "block_behind_stroke" 15, dd "first_meeting" 16, dd "steps_to_height" 17, dd "level_strike" 18, dd "upright_strike" 19, dd "stroke_strike" 20, dd "_law_flat" 22, dd "_law_box" 23, dd "_law_load" 24, dd "_law_draw" 25, dd "_law_same" 26, dd "_law_block" 27, dd "_law_tools" 28, dd "_law_window" 29, dd "_law_top" 30, dd "_law_stroke" 31, dd "law" 32]
def fa : List He.Fa := [.glo "size_of", .glo "fields_beneath", .glo "fields_about", .glo "greatest_at", .glo "is_free", .glo "is_shank_free", .glo "cut_at", .glo "strokes_between", .glo "stroke_steps", .glo "stroke_axis", .glo "swept_bounds", .glo "block_behind_stroke", .glo "first_meeting", .glo "steps_to_height", .glo "level_strike", .glo "upright_strike", .glo "stroke_strike", .glo "_law_flat", .glo "_law_box", .glo "_law_load", .glo "_law_draw", .glo "_law_same", .glo "_law_block", .glo "_law_tools", .glo "_law_window", .glo "_law_top", .glo "_law_stroke", .glo "law", .str "FAST" "fast", .free "abs"] ++ [.free "all", .free "bool", .free "enumerate", .free "int", .free "isinstance", .free "len", .free "list", .free "max", .free "min", .free "range", .free "str", .free "sum", .free "tuple", .free "zip"]
def loose : List Str := ["size_of", "fields_beneath", "fields_about", "greatest_at", "is_free", "is_shank_free", "cut_at", "strokes_between", "stroke_steps", "stroke_axis", "swept_bounds", "block_behind_stroke", "first_meeting", "steps_to_height", "level_strike", "upright_strike", "stroke_strike", "_law_flat", "_law_box", "_law_load", "_law_draw", "_law_same", "_law_block", "_law_tools", "_law_window", "_law_top", "_law_stroke", "FAST"]
theorem okAll : (ds.all fun d => okD (sigs ds) gn fr d) = true := by kernel_rfl
theorem fnsE : fns ds = fs := rfl
theorem b_size_of : BindOk (pd "size_of" 1 c_size_of) := fun _ _ _ _ _ _ us hl => match us, hl with | [_], _ => rfl
theorem b_fields_beneath : BindOk (pd "fields_beneath" 3 c_fields_beneath) := fun _ _ _ _ _ _ us hl => match us, hl with | [_, _], _ => rfl
theorem b_fields_about : BindOk (pd "fields_about" 4 c_fields_about) := fun _ _ _ _ _ _ us hl => match us, hl with | [_, _, _], _ => rfl
theorem b_greatest_at : BindOk (pd "greatest_at" 5 c_greatest_at) := fun _ _ _ _ _ _ us hl => match us, hl with | [_, _], _ => rfl
theorem b_is_free : BindOk (pd "is_free" 6 c_is_free) := fun _ _ _ _ _ _ us hl => match us, hl with | [_, _, _], _ => rfl
theorem b_is_shank_free : BindOk (pd "is_shank_free" 7 c_is_shank_free) := fun _ _ _ _ _ _ us hl => match us, hl with | [_, _, _], _ => rfl
theorem b_cut_at : BindOk (pd "cut_at" 8 c_cut_at) := fun _ _ _ _ _ _ us hl => match us, hl with | [_, _, _], _ => rfl
theorem b_strokes_between : BindOk (pd "strokes_between" 11 c_strokes_between) := fun _ _ _ _ _ _ us hl => match us, hl with | [_, _], _ => rfl
theorem b_stroke_steps : BindOk (pd "stroke_steps" 12 c_stroke_steps) := fun _ _ _ _ _ _ us hl => match us, hl with | [_, _], _ => rfl
theorem b_stroke_axis : BindOk (pd "stroke_axis" 13 c_stroke_axis) := fun _ _ _ _ _ _ us hl => match us, hl with | [_, _], _ => rfl
theorem b_swept_bounds : BindOk (pd "swept_bounds" 14 c_swept_bounds) := fun _ _ _ _ _ _ us hl => match us, hl with | [_, _, _], _ => rfl
theorem b_block_behind_stroke : BindOk (pd "block_behind_stroke" 15 c_block_behind_stroke) := fun _ _ _ _ _ _ us hl => match us, hl with | [_, _, _, _], _ => rfl
theorem b_first_meeting : BindOk (pd "first_meeting" 16 c_first_meeting) := fun _ _ _ _ _ _ us hl => match us, hl with | [_, _, _, _], _ => rfl
theorem b_steps_to_height : BindOk (pd "steps_to_height" 17 c_steps_to_height) := fun _ _ _ _ _ _ us hl => match us, hl with | [_, _, _, _, _, _], _ => rfl
theorem b_level_strike : BindOk (pd "level_strike" 18 c_level_strike) := fun _ _ _ _ _ _ us hl => match us, hl with | [_, _, _, _, _], _ => rfl
theorem b_upright_strike : BindOk (pd "upright_strike" 19 c_upright_strike) := fun _ _ _ _ _ _ us hl => match us, hl with | [_, _, _, _, _], _ => rfl
theorem b_stroke_strike : BindOk (pd "stroke_strike" 20 c_stroke_strike) := fun _ _ _ _ _ _ us hl => match us, hl with | [_, _, _, _, _], _ => rfl
theorem b__law_flat : BindOk (pd "_law_flat" 22 c__law_flat) := fun _ _ _ _ _ _ us hl => match us, hl with | [_], _ => rfl
theorem b__law_box : BindOk (pd "_law_box" 23 c__law_box) := fun _ _ _ _ _ _ us hl => match us, hl with | [_], _ => rfl
theorem b__law_load : BindOk (pd "_law_load" 24 c__law_load) := fun _ _ _ _ _ _ us hl => match us, hl with | [_], _ => rfl
theorem b__law_draw : BindOk (pd "_law_draw" 25 c__law_draw) := fun _ _ _ _ _ _ us hl => match us, hl with | [_, _], _ => rfl
theorem b__law_same : BindOk (pd "_law_same" 26 c__law_same) := fun _ _ _ _ _ _ us hl => match us, hl with | [_, _], _ => rfl
theorem b__law_block : BindOk (pd "_law_block" 27 c__law_block) := fun _ _ _ _ _ _ us hl => match us, hl with | [_, _, _, _], _ => rfl
theorem b__law_tools : BindOk (pd "_law_tools" 28 c__law_tools) := fun _ _ _ _ _ _ us hl => match us, hl with | [_], _ => rfl
theorem b__law_window : BindOk (pd "_law_window" 29 c__law_window) := fun _ _ _ _ _ _ us hl => match us, hl with | [_, _, _, _, _], _ => rfl
theorem b__law_top : BindOk (pd "_law_top" 30 c__law_top) := fun _ _ _ _ _ _ us hl => match us, hl with | [_, _], _ => rfl
theorem b__law_stroke : BindOk (pd "_law_stroke" 31 c__law_stroke) := fun _ _ _ _ _ _ us hl => match us, hl with | [_, _, _, _, _, _], _ => rfl
theorem b_law : BindOk (pd "law" 32 c_law) := fun _ _ _ _ _ _ us hl => match us, hl with | [_], _ => rfl
theorem bindAll : ∀ d ∈ ds, BindOk d := by
  intro d hd
  have e : ∃ i, ds[i]? = some d := List.getElem?_of_mem hd
  obtain ⟨i, e⟩ := e
  match i, e with
  | 0, e => cases e; exact b_size_of
  | 1, e => cases e; exact b_fields_beneath
  | 2, e => cases e; exact b_fields_about
  | 3, e => cases e; exact b_greatest_at
  | 4, e => cases e; exact b_is_free
  | 5, e => cases e; exact b_is_shank_free
  | 6, e => cases e; exact b_cut_at
  | 7, e => cases e; exact b_strokes_between
  | 8, e => cases e; exact b_stroke_steps
  | 9, e => cases e; exact b_stroke_axis
  | 10, e => cases e; exact b_swept_bounds
  | 11, e => cases e; exact b_block_behind_stroke
  | 12, e => cases e; exact b_first_meeting
  | 13, e => cases e; exact b_steps_to_height
  | 14, e => cases e; exact b_level_strike
  | 15, e => cases e; exact b_upright_strike
  | 16, e => cases e; exact b_stroke_strike
  | 17, e => cases e; exact b__law_flat
  | 18, e => cases e; exact b__law_box
  | 19, e => cases e; exact b__law_load
  | 20, e => cases e; exact b__law_draw
  | 21, e => cases e; exact b__law_same
  | 22, e => cases e; exact b__law_block
  | 23, e => cases e; exact b__law_tools
  | 24, e => cases e; exact b__law_window
  | 25, e => cases e; exact b__law_top
  | 26, e => cases e; exact b__law_stroke
  | 27, e => cases e; exact b_law
  | i + 28, e => cases e
abbrev R : PySem.W.OpenRow := PySem.W.OpenLaw.row PySem.Challenge.rw_pathsmilled_k43_whole_strokes
abbrev hk : PySem.W.Hook := He.hookD 4 fa fn
def ob (s : PySem.W.SharedT) : He.AlD := He.obsDG 4 fa fn (HandSHeadRun.getT s)
theorem ob_eq (s : PySem.W.SharedT) : ob s = hk.obs s.abs := He.obsDG_eq (HandSHeadRun.getT_eq s)
theorem run (w : World) : HandSHeadRun.RunEq R (PySem.W.view R.prog [32]) hk ob 20000 loose w := by
  intro os
  kernel_rfl
def LV : Nat := 16
def LI : Nat := 27
theorem prog {P : Program} {w : World} {K : PySem.W.Frag} {h : Heap} {mg : Str → Option Value} {base : Heap} (X : K.In h) (G : h.Ns mainGlobals mg) (c : He.SaysD fa fn K) : ProgOk P w K mg base ds gs gn fr := by
  refine ⟨fun i d hi => ?_, bindAll, fun d hd => List.all_eq_true.mp okAll d hd, fun k x d h1 h2 => ?_, fun x hx => ?_⟩
  · match i, hi with
    | 0, hi => cases hi; obtain ⟨fd, F⟩ := c.def_ 0 (d := dd "size_of" 1) rfl; exact ⟨_, fd, He.glo_ok X G (c.fact 0 (f := .glo "size_of") rfl), F⟩
    | 1, hi => cases hi; obtain ⟨fd, F⟩ := c.def_ 1 (d := dd "fields_beneath" 3) rfl; exact ⟨_, fd, He.glo_ok X G (c.fact 1 (f := .glo "fields_beneath") rfl), F⟩
    | 2, hi => cases hi; obtain ⟨fd, F⟩ := c.def_ 2 (d := dd "fields_about" 4) rfl; exact ⟨_, fd, He.glo_ok X G (c.fact 2 (f := .glo "fields_about") rfl), F⟩
    | 3, hi => cases hi; obtain ⟨fd, F⟩ := c.def_ 3 (d := dd "greatest_at" 5) rfl; exact ⟨_, fd, He.glo_ok X G (c.fact 3 (f := .glo "greatest_at") rfl), F⟩
    | 4, hi => cases hi; obtain ⟨fd, F⟩ := c.def_ 4 (d := dd "is_free" 6) rfl; exact ⟨_, fd, He.glo_ok X G (c.fact 4 (f := .glo "is_free") rfl), F⟩
    | 5, hi => cases hi; obtain ⟨fd, F⟩ := c.def_ 5 (d := dd "is_shank_free" 7) rfl; exact ⟨_, fd, He.glo_ok X G (c.fact 5 (f := .glo "is_shank_free") rfl), F⟩
    | 6, hi => cases hi; obtain ⟨fd, F⟩ := c.def_ 6 (d := dd "cut_at" 8) rfl; exact ⟨_, fd, He.glo_ok X G (c.fact 6 (f := .glo "cut_at") rfl), F⟩
    | 7, hi => cases hi; obtain ⟨fd, F⟩ := c.def_ 7 (d := dd "strokes_between" 11) rfl; exact ⟨_, fd, He.glo_ok X G (c.fact 7 (f := .glo "strokes_between") rfl), F⟩
    | 8, hi => cases hi; obtain ⟨fd, F⟩ := c.def_ 8 (d := dd "stroke_steps" 12) rfl; exact ⟨_, fd, He.glo_ok X G (c.fact 8 (f := .glo "stroke_steps") rfl), F⟩
    | 9, hi => cases hi; obtain ⟨fd, F⟩ := c.def_ 9 (d := dd "stroke_axis" 13) rfl; exact ⟨_, fd, He.glo_ok X G (c.fact 9 (f := .glo "stroke_axis") rfl), F⟩
    | 10, hi => cases hi; obtain ⟨fd, F⟩ := c.def_ 10 (d := dd "swept_bounds" 14) rfl; exact ⟨_, fd, He.glo_ok X G (c.fact 10 (f := .glo "swept_bounds") rfl), F⟩
    | 11, hi => cases hi; obtain ⟨fd, F⟩ := c.def_ 11 (d := dd "block_behind_stroke" 15) rfl; exact ⟨_, fd, He.glo_ok X G (c.fact 11 (f := .glo "block_behind_stroke") rfl), F⟩
    | 12, hi => cases hi; obtain ⟨fd, F⟩ := c.def_ 12 (d := dd "first_meeting" 16) rfl; exact ⟨_, fd, He.glo_ok X G (c.fact 12 (f := .glo "first_meeting") rfl), F⟩
    | 13, hi => cases hi; obtain ⟨fd, F⟩ := c.def_ 13 (d := dd "steps_to_height" 17) rfl; exact ⟨_, fd, He.glo_ok X G (c.fact 13 (f := .glo "steps_to_height") rfl), F⟩
    | 14, hi => cases hi; obtain ⟨fd, F⟩ := c.def_ 14 (d := dd "level_strike" 18) rfl; exact ⟨_, fd, He.glo_ok X G (c.fact 14 (f := .glo "level_strike") rfl), F⟩
    | 15, hi => cases hi; obtain ⟨fd, F⟩ := c.def_ 15 (d := dd "upright_strike" 19) rfl; exact ⟨_, fd, He.glo_ok X G (c.fact 15 (f := .glo "upright_strike") rfl), F⟩
    | 16, hi => cases hi; obtain ⟨fd, F⟩ := c.def_ 16 (d := dd "stroke_strike" 20) rfl; exact ⟨_, fd, He.glo_ok X G (c.fact 16 (f := .glo "stroke_strike") rfl), F⟩
    | 17, hi => cases hi; obtain ⟨fd, F⟩ := c.def_ 17 (d := dd "_law_flat" 22) rfl; exact ⟨_, fd, He.glo_ok X G (c.fact 17 (f := .glo "_law_flat") rfl), F⟩
    | 18, hi => cases hi; obtain ⟨fd, F⟩ := c.def_ 18 (d := dd "_law_box" 23) rfl; exact ⟨_, fd, He.glo_ok X G (c.fact 18 (f := .glo "_law_box") rfl), F⟩
    | 19, hi => cases hi; obtain ⟨fd, F⟩ := c.def_ 19 (d := dd "_law_load" 24) rfl; exact ⟨_, fd, He.glo_ok X G (c.fact 19 (f := .glo "_law_load") rfl), F⟩
    | 20, hi => cases hi; obtain ⟨fd, F⟩ := c.def_ 20 (d := dd "_law_draw" 25) rfl; exact ⟨_, fd, He.glo_ok X G (c.fact 20 (f := .glo "_law_draw") rfl), F⟩
    | 21, hi => cases hi; obtain ⟨fd, F⟩ := c.def_ 21 (d := dd "_law_same" 26) rfl; exact ⟨_, fd, He.glo_ok X G (c.fact 21 (f := .glo "_law_same") rfl), F⟩
    | 22, hi => cases hi; obtain ⟨fd, F⟩ := c.def_ 22 (d := dd "_law_block" 27) rfl; exact ⟨_, fd, He.glo_ok X G (c.fact 22 (f := .glo "_law_block") rfl), F⟩
    | 23, hi => cases hi; obtain ⟨fd, F⟩ := c.def_ 23 (d := dd "_law_tools" 28) rfl; exact ⟨_, fd, He.glo_ok X G (c.fact 23 (f := .glo "_law_tools") rfl), F⟩
    | 24, hi => cases hi; obtain ⟨fd, F⟩ := c.def_ 24 (d := dd "_law_window" 29) rfl; exact ⟨_, fd, He.glo_ok X G (c.fact 24 (f := .glo "_law_window") rfl), F⟩
    | 25, hi => cases hi; obtain ⟨fd, F⟩ := c.def_ 25 (d := dd "_law_top" 30) rfl; exact ⟨_, fd, He.glo_ok X G (c.fact 25 (f := .glo "_law_top") rfl), F⟩
    | 26, hi => cases hi; obtain ⟨fd, F⟩ := c.def_ 26 (d := dd "_law_stroke" 31) rfl; exact ⟨_, fd, He.glo_ok X G (c.fact 26 (f := .glo "_law_stroke") rfl), F⟩
    | 27, hi => cases hi; obtain ⟨fd, F⟩ := c.def_ 27 (d := dd "law" 32) rfl; exact ⟨_, fd, He.glo_ok X G (c.fact 27 (f := .glo "law") rfl), F⟩
    | i + 28, hi => cases hi
  · match k, h1, h2 with
    | 0, h1, h2 => cases h1; cases h2; obtain ⟨t, e⟩ := He.str_ok X G (c.fact 28 (f := .str "FAST" "fast") rfl); exact ⟨.str _, _, e, ⟨t, rfl⟩, .str _⟩
    | i + 1, h1, h2 => cases h1
  · have e : ∃ i, fr[i]? = some x := List.getElem?_of_mem hx
    obtain ⟨i, e⟩ := e
    match i, e with
    | 0, e => cases e; exact He.free_ok X G (c.fact 29 (f := .free "abs") rfl)
    | 1, e => cases e; exact He.free_ok X G (c.fact 30 (f := .free "all") rfl)
    | 2, e => cases e; exact He.free_ok X G (c.fact 31 (f := .free "bool") rfl)
    | 3, e => cases e; exact He.free_ok X G (c.fact 32 (f := .free "enumerate") rfl)
    | 4, e => cases e; exact He.free_ok X G (c.fact 33 (f := .free "int") rfl)
    | 5, e => cases e; exact He.free_ok X G (c.fact 34 (f := .free "isinstance") rfl)
    | 6, e => cases e; exact He.free_ok X G (c.fact 35 (f := .free "len") rfl)
    | 7, e => cases e; exact He.free_ok X G (c.fact 36 (f := .free "list") rfl)
    | 8, e => cases e; exact He.free_ok X G (c.fact 37 (f := .free "max") rfl)
    | 9, e => cases e; exact He.free_ok X G (c.fact 38 (f := .free "min") rfl)
    | 10, e => cases e; exact He.free_ok X G (c.fact 39 (f := .free "range") rfl)
    | 11, e => cases e; exact He.free_ok X G (c.fact 40 (f := .free "str") rfl)
    | 12, e => cases e; exact He.free_ok X G (c.fact 41 (f := .free "sum") rfl)
    | 13, e => cases e; exact He.free_ok X G (c.fact 42 (f := .free "tuple") rfl)
    | 14, e => cases e; exact He.free_ok X G (c.fact 43 (f := .free "zip") rfl)
    | i + 15, e => cases e
theorem facts {P : Program} {w : World} {K : PySem.W.Frag} {h : Heap} {mg : Str → Option Value} {f : Addr} (X : K.In h) (G : h.Ns mainGlobals mg) (hfa : mg ("law" : Str) = some (.ref f)) (c : He.SaysD fa fn K) :
    ∃ fd : FuncData, (∀ (s : Shared) (v : Value), BindsTo s fd ⟨[v], []⟩ [("script", v)]) ∧ ∀ base : Heap, K.In base → base.Ns mainGlobals mg → FnOk P w K mg base CX0 LV f fd ["script"] (spF K (callF fs gs LV) LI) := by
  obtain ⟨fd, F⟩ := c.def_ 27 (d := dd "law" 32) rfl
  have e := hfa.symm.trans (He.glo_ok X G (c.fact 27 (f := .glo "law") rfl))
  cases e
  have b := FunD.bindsA (ps := ["script"]) F fun _ _ _ _ _ _ us hl => match us, hl with | [_], _ => rfl
  exact ⟨fd, fun s v => b s [v] rfl, fun base _ _ => prog_ok (prog X G c) LV LI (pd "law" 32 c_law) rfl _ fd F⟩
end PV.K43
open PySem PySem.W PySem.Calls PyProof.Rows
theorem PySem.Challenge.cw_pathsmilled_k43_whole_strokes_holds : PySem.Challenge.rw_pathsmilled_k43_whole_strokes.Holds := by
  w_on; o_law
  refine HandSHeadRun.head_any (r := OpenLaw.row PySem.Challenge.rw_pathsmilled_k43_whole_strokes) (q := view (OpenLaw.row PySem.Challenge.rw_pathsmilled_k43_whole_strokes).prog [32]) (H := PV.K43.hk) (ob := PV.K43.ob) (M := 20000) (loose := PV.K43.loose) (d := HandSHeadRun.topDef (OpenLaw.row PySem.Challenge.rw_pathsmilled_k43_whole_strokes).prog 32) (kwd := []) PV.K43.ob_eq
    (by kernel_rfl) (fun s => by kernel_rfl) PV.K43.run (by kernel_rfl) (by kernel_rfl) (by kernel_rfl) (by rfl) (by first | assumption | decide +kernel) (by decide +kernel) ⟨rfl, rfl, rfl, rfl, rfl, by decide +kernel⟩ ?hw ?hc
  case hw => w_witness2
  case hc =>
    refine L2.walk_ofE (l := PySem.Challenge.rw_pathsmilled_k43_whole_strokes) (n := 63) (k := PV.K43.LV) (x := "script") (CX := L2.CX0) rfl (by decide) (by kernel_rfl) ⟨rfl, by decide, by decide⟩ ?F (fun _ _ _ _ z => z)
    intro w mg fa h Y G hmg0
    obtain ⟨K, KX, c⟩ := Y
    have hmg : mg ("law" : PySem.Str) = some (.ref fa) := by
      have e : (HandSHeadRun.topDef (OpenLaw.row PySem.Challenge.rw_pathsmilled_k43_whole_strokes).prog 32).name = ("law" : PySem.Str) := by kernel_rfl
      rw [← e]
      exact hmg0
    obtain ⟨fd, hb, hF⟩ := PV.K43.facts (P := (PySem.Challenge.rw_pathsmilled_k43_whole_strokes).prog) (w := w) KX G hmg c
    refine ⟨K, fd, _, KX, hb, fun H a ns hl _ hS => ?_, hF⟩
    obtain ⟨st', e⟩ := PV.K43.core ns hl
    exact PV.law_sp (ds := PV.K43.ds) e hS
